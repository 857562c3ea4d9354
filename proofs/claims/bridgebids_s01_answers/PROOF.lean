import PyProof.Rows.All
import Wide.All
import OpenK.AllK
import Wide.FinOn
import Open.SpecLaws
import KE.OsGo
import HandS.ForSpec
import HandS.ForMost
import HandS.More
import HandS.Evl
import HandS.Steps
import PySem.Challenge.RW_bridgebids_s01_answers
set_option Elab.async false
set_option linter.all false
set_option maxRecDepth 100000
set_option maxHeartbeats 8000000
namespace G
open Vbbrac

/-- the last bid, or -1 -/
def lastI (m : Made) : Int := match lastBid m with
  | some x => (x.2 : Int)
  | none => -1
def sideLast (m : Made) : Nat := match lastBid m with
  | some x => x.1 % 2
  | none => 0
def mayStand (m : Made) (s c : Nat) : Bool := match lastWord m with
  | none => false
  | some x => if x.1 % 2 = s % 2 then false else if c = 1 then decide (3 ≤ x.2) else x.2 == 1

/-! ### reversed walks -/
theorem rev_append (m : Made) (x : Nat × Nat) : (m ++ [x]).reverse = x :: m.reverse := by simp
theorem lastWhere_append (p : Nat → Bool) (m : Made) (x : Nat × Nat) : lastWhere p (m ++ [x]) = if p x.2 = true then some x else lastWhere p m := by
  unfold lastWhere
  rw [rev_append, List.find?_cons]
  by_cases h : p x.2 = true
  · simp [h]
  · simp [h]
theorem lastBid_append (m : Made) (s c : Nat) : lastBid (m ++ [(s, c)]) = if 3 ≤ c then some (s, c - 3) else lastBid m := by
  unfold lastBid
  rw [lastWhere_append]
  by_cases h : 3 ≤ c
  · simp [h]
  · simp [h]
theorem lastWord_append (m : Made) (s c : Nat) : lastWord (m ++ [(s, c)]) = if 1 ≤ c then some (s, c) else lastWord m := by
  unfold lastWord
  rw [lastWhere_append]
  by_cases h : 1 ≤ c
  · simp [h]
  · simp [h]
theorem passes_append (m : Made) (s c : Nat) : passes (m ++ [(s, c)]) = if c = 0 then passes m + 1 else 0 := by
  unfold passes
  rw [rev_append, List.takeWhile_cons]
  by_cases h : c = 0
  · simp [h]
  · simp [h]
theorem turn_append (d : Nat) (m : Made) (s c : Nat) : turn d (m ++ [(s, c)]) = (s + 1) % 4 := by
  unfold turn
  simp [nextSeat]
theorem turn_nil (d : Nat) : turn d [] = d := rfl
theorem lastBid_nil : lastBid [] = none := rfl
theorem lastWord_nil : lastWord [] = none := rfl
theorem passes_nil : passes [] = 0 := rfl
theorem doubled_append (m : Made) (s c : Nat) : doubled (m ++ [(s, c)]) = if c = 0 then doubled m else if c = 1 then 1 else if c = 2 then 2 else 0 := by
  unfold doubled
  rw [lastWord_append]
  by_cases h : c = 0
  · subst h
    simp
  · rw [if_pos (by omega), if_neg h]
theorem turn_lt {d : Nat} (hd : d ≤ 3) (m : Made) : turn d m ≤ 3 := by
  unfold turn
  split
  · unfold nextSeat; omega
  · exact hd

/-! ### induction from the end -/
theorem made_ind {P : Made → Prop} (h0 : P []) (h1 : ∀ m s c, P m → P (m ++ [(s, c)])) (m : Made) : P m := by
  have h : ∀ (r : Made), P r.reverse := by
    intro r
    induction r with
    | nil => exact h0
    | cons x r ih =>
      obtain ⟨s, c⟩ := x
      have e : ((s, c) :: r).reverse = r.reverse ++ [(s, c)] := by simp
      rw [e]
      exact h1 _ _ _ ih
  have e := h m.reverse
  rwa [List.reverse_reverse] at e

theorem lastWord_pos (m : Made) : ∀ x, lastWord m = some x → 1 ≤ x.2 := by
  refine made_ind (P := fun m => ∀ x, lastWord m = some x → 1 ≤ x.2) ?_ ?_ m
  · intro x h
    cases h
  · intro m s c ih x h
    rw [lastWord_append] at h
    split at h
    · cases h
      assumption
    · exact ih x h
theorem doubled_le (m : Made) : doubled m ≤ 2 := by
  unfold doubled
  split
  · split
    · omega
    · split <;> omega
  · omega
/-- a word and the bid -/
theorem lastWord_none (m : Made) : lastWord m = none → lastBid m = none := by
  refine made_ind (P := fun m => lastWord m = none → lastBid m = none) (fun _ => rfl) ?_ m
  intro m s c ih h
  rw [lastWord_append] at h
  rw [lastBid_append]
  split at h
  · cases h
  · rw [if_neg (by omega)]
    exact ih h
theorem lastWord_bid (m : Made) : ∀ x, lastWord m = some x → 3 ≤ x.2 → lastBid m = some (x.1, x.2 - 3) := by
  refine made_ind (P := fun m => ∀ x, lastWord m = some x → 3 ≤ x.2 → lastBid m = some (x.1, x.2 - 3)) ?_ ?_ m
  · intro x h
    cases h
  · intro m s c ih x h hx
    rw [lastWord_append] at h
    rw [lastBid_append]
    split at h
    · cases h
      rw [if_pos hx]
    · rw [if_neg (by omega)]
      exact ih x h hx
theorem doubled_word (m : Made) (x : Nat × Nat) (h : lastWord m = some x) : doubled m = if x.2 = 1 then 1 else if x.2 = 2 then 2 else 0 := by
  unfold doubled
  rw [h]
theorem mayStand_1 (m : Made) (s : Nat) : mayStand m s 1 = mayDouble m s := by
  unfold mayStand mayDouble sameSide
  cases lastWord m with
  | none => rfl
  | some x =>
    by_cases h : x.1 % 2 = s % 2
    · simp [h]
    · simp [h]
theorem mayStand_2 (m : Made) (s : Nat) : mayStand m s 2 = mayRedouble m s := by
  unfold mayStand mayRedouble sameSide
  cases lastWord m with
  | none => rfl
  | some x =>
    by_cases h : x.1 % 2 = s % 2
    · simp [h]
    · simp [h]

/-! ### doubles stand properly: what is true of all calls made at a table -/
/-- a double behind a bid is of the other side; a redouble of the bid's side -/
structure Dbl (m : Made) : Prop where
  one : ∀ x, lastWord m = some x → x.2 = 1 → ∃ y, lastBid m = some y ∧ (x.1 % 2 ≠ y.1 % 2)
  two : ∀ x, lastWord m = some x → x.2 = 2 → ∃ y, lastBid m = some y ∧ (x.1 % 2 = y.1 % 2)
theorem Dbl.nil : Dbl [] := ⟨fun x h => by (cases h), fun x h => by (cases h)⟩
theorem Dbl.snoc {m : Made} (D : Dbl m) {s c : Nat} (h1 : c = 1 → mayDouble m s = true) (h2 : c = 2 → mayRedouble m s = true) : Dbl (m ++ [(s, c)]) := by
  refine ⟨fun x h e => ?_, fun x h e => ?_⟩
  · rw [lastWord_append] at h
    rw [lastBid_append]
    split at h
    · cases h
      have e' : c = 1 := e
      subst e'
      rw [if_neg (by omega)]
      have q := h1 rfl
      unfold mayDouble at q
      cases w : lastWord m with
      | none => rw [w] at q; cases q
      | some y =>
        rw [w] at q
        simp only [Bool.and_eq_true, decide_eq_true_eq, Bool.not_eq_true', sameSide, beq_eq_false_iff_ne] at q
        exact ⟨_, lastWord_bid m y w q.1, fun z => q.2 z.symm⟩
    · rw [if_neg (by omega)]
      exact D.one x h e
  · rw [lastWord_append] at h
    rw [lastBid_append]
    split at h
    · cases h
      have e' : c = 2 := e
      subst e'
      rw [if_neg (by omega)]
      have q := h2 rfl
      unfold mayRedouble at q
      cases w : lastWord m with
      | none => rw [w] at q; cases q
      | some y =>
        rw [w] at q
        simp only [Bool.and_eq_true, beq_iff_eq, Bool.not_eq_true', sameSide, beq_eq_false_iff_ne] at q
        obtain ⟨z, hz, hz2⟩ := D.one y w q.1
        refine ⟨z, hz, ?_⟩
        have := q.2
        show s % 2 = z.1 % 2
        omega
    · rw [if_neg (by omega)]
      exact D.two x h e

/-! ### positions: the program's own four things -/
structure Pz where
  bid : Int
  d : Nat
  p : Nat
  o : Bool
  deriving DecidableEq
def byOther (dl : Nat) (m : Made) : Bool := match lastWord m with
  | none => false
  | some x => decide (x.1 % 2 ≠ turn dl m % 2)
def posOf (dl : Nat) (m : Made) : Pz := ⟨lastI m, doubled m, passes m, byOther dl m⟩
def first : Pz := ⟨-1, 0, 0, false⟩
def atEnd (q : Pz) : Bool := decide ((if q.bid = -1 then 4 else 3) ≤ (q.p : Int))
def higherCalls (b : Int) : List Nat := (List.range (34 - b).toNat).map fun i => (4 + b).toNat + i
def legalP (q : Pz) : List Nat :=
  (0 :: (if q.bid ≠ -1 ∧ q.o = true then (if q.d = 0 then [1] else if q.d = 1 then [2] else []) else [])) ++ higherCalls q.bid
def behindP (q : Pz) (c : Nat) : Pz :=
  if c = 0 then ⟨q.bid, q.d, q.p + 1, decide (q.bid ≠ -1) && !q.o⟩
  else if c < 3 then ⟨q.bid, c, 0, true⟩ else ⟨(c : Int) - 3, 0, 0, true⟩
/-- the program's loop of ways_with_bid: turns left, may double, so far -/
def waysLoop (h bd : Nat) : Nat → Bool → Nat → Nat
  | 0, _, w => w
  | k + 1, mb, w => waysLoop h bd k (!mb) (if mb = true then w + h + bd else w + h)
def waysB2 (p : Nat) (o : Bool) (h : Nat) : Nat := waysLoop h 0 (3 - p) o 1
def waysB1 (p : Nat) (o : Bool) (h : Nat) : Nat := waysLoop h (waysB2 0 true h) (3 - p) o 1
def waysB0 (p : Nat) (o : Bool) (h : Nat) : Nat := waysLoop h (waysB1 0 true h) (3 - p) o 1
def waysB (d p : Nat) (o : Bool) (h : Nat) : Nat := if d = 0 then waysB0 p o h else if d = 1 then waysB1 p o h else waysB2 p o h
def sumsFrom : Nat → List Nat
  | 0 => [0]
  | n + 1 => ((sumsFrom n).headD 0 + waysB 0 0 true ((sumsFrom n).headD 0)) :: sumsFrom n
def sums : List Nat := sumsFrom 35
def waysP (q : Pz) : Nat :=
  if atEnd q = true then 1
  else if q.bid = -1 then 1 + (4 - q.p) * sums.getD 0 0
  else waysB q.d q.p q.o (sums.getD (q.bid + 1).toNat 0)

theorem waysB_0 (h : Nat) : waysB 0 0 true h = 21 * h + 7 := by
  simp [waysB, waysB0, waysB1, waysB2, waysLoop]
  omega
theorem sumsFrom_head (n : Nat) : (sumsFrom n).headD 0 = behind n := by
  induction n with
  | zero => rfl
  | succ n ih =>
    show (sumsFrom n).headD 0 + waysB 0 0 true ((sumsFrom n).headD 0) = behind (n + 1)
    rw [ih, waysB_0]
    show _ = 22 * behind n + 7
    omega
theorem sumsFrom_len (n : Nat) : (sumsFrom n).length = n + 1 := by
  induction n with
  | zero => rfl
  | succ n ih => show (sumsFrom n).length + 1 = _; rw [ih]
theorem sumsFrom_get : ∀ (n i : Nat), i ≤ n → (sumsFrom n).getD i 0 = behind (n - i)
  | 0, 0, _ => rfl
  | n + 1, 0, _ => by
    have e := sumsFrom_head (n + 1)
    simpa [sumsFrom] using e
  | n + 1, i + 1, h => by
    have e := sumsFrom_get n i (by omega)
    show (sumsFrom n).getD i 0 = _
    rw [e]
    congr 1
    omega
theorem sums_get (i : Nat) (h : i ≤ 35) : sums.getD i 0 = behind (35 - i) := sumsFrom_get 35 i h
theorem sums_len : sums.length = 36 := sumsFrom_len 35

/-! ### ways -/
theorem tail_eq (d p : Nat) (o : Bool) (hd : d ≤ 2) (hp : p ≤ 2) (h : Nat) :
    (tail STEPS d p o).1 + (tail STEPS d p o).2 * h = waysB d p (if d = 1 then !o else o) h := by
  have e : d = 0 ∨ d = 1 ∨ d = 2 := by omega
  have e2 : p = 0 ∨ p = 1 ∨ p = 2 := by omega
  rcases e with rfl | rfl | rfl <;> rcases e2 with rfl | rfl | rfl <;> cases o <;>
    simp [tail, STEPS, waysB, waysB0, waysB1, waysB2, waysLoop] <;> omega
theorem waysB_2 (p : Nat) (o o' : Bool) (h : Nat) (hp : p ≤ 2) : waysB 2 p o h = waysB 2 p o' h := by
  have e2 : p = 0 ∨ p = 1 ∨ p = 2 := by omega
  rcases e2 with rfl | rfl | rfl <;> cases o <;> cases o' <;> simp [waysB, waysB2, waysLoop]

theorem over_iff (m : Made) : over m = decide ((if lastI m = -1 then 4 else 3) ≤ (passes m : Int)) := by
  unfold over lastI
  cases lastBid m with
  | none => simp; omega
  | some x =>
    have h : ¬ ((x.2 : Int) = -1) := by omega
    simp [h]
    omega
theorem atEnd_posOf (dl : Nat) (m : Made) : atEnd (posOf dl m) = over m := by
  rw [over_iff]
  rfl

/-- by whom: of the bid, told by the last word -/
theorem other_bid {m : Made} (D : Dbl m) (dl : Nat) {y : Nat × Nat} (hb : lastBid m = some y) :
    (if doubled m = 1 then !(!sameSide y.1 (turn dl m)) else (!sameSide y.1 (turn dl m))) = byOther dl m ∨ doubled m = 2 := by
  unfold byOther
  cases w : lastWord m with
  | none =>
    have := lastWord_none m w
    rw [hb] at this
    cases this
  | some x =>
    have hx := lastWord_pos m x w
    rw [doubled_word m x w]
    by_cases h1 : x.2 = 1
    · left
      obtain ⟨z, hz, hne⟩ := D.one x w h1
      rw [hb] at hz
      cases hz
      rw [if_pos h1, if_pos rfl]
      have e : sameSide y.1 (turn dl m) = decide (y.1 % 2 = turn dl m % 2) := by
        unfold sameSide
        rw [Bool.beq_eq_decide_eq]
      rw [Bool.not_not, e]
      by_cases q : y.1 % 2 = turn dl m % 2
      · have q2 : x.1 % 2 ≠ turn dl m % 2 := fun z => hne (z.trans q.symm)
        simp [q, q2]
      · have q2 : x.1 % 2 = turn dl m % 2 := by omega
        simp [q, q2]
    · by_cases h2 : x.2 = 2
      · right
        rw [if_neg h1, if_pos h2]
      · left
        rw [if_neg h1, if_neg h2, if_neg (by omega)]
        have hz := lastWord_bid m x w (by omega)
        rw [hb] at hz
        cases hz
        unfold sameSide
        show (!(x.1 % 2 == turn dl m % 2)) = decide (x.1 % 2 ≠ turn dl m % 2)
        by_cases q : x.1 % 2 = turn dl m % 2
        · simp [q]
        · simp [q]

structure Good (m : Made) : Prop where
  dbl : Dbl m
  le : ∀ x ∈ m, x.1 ≤ 3 ∧ x.2 ≤ 37
theorem lastBid_mem {m : Made} {y : Nat × Nat} (h : lastBid m = some y) : (y.1, y.2 + 3) ∈ m := by
  revert y
  refine made_ind (P := fun m => ∀ {y : Nat × Nat}, lastBid m = some y → (y.1, y.2 + 3) ∈ m) (fun h => by cases h) ?_ m
  intro m s c ih y h
  rw [lastBid_append] at h
  split at h
  · cases h
    rename_i hc
    have e : c - 3 + 3 = c := by omega
    simp [e]
  · exact List.mem_append_left _ (ih h)
theorem Good.bid {m : Made} (g : Good m) {y : Nat × Nat} (h : lastBid m = some y) : y.1 ≤ 3 ∧ y.2 ≤ 34 := by
  have := g.le _ (lastBid_mem h)
  simp at this
  omega
theorem Good.lastI {m : Made} (g : Good m) : -1 ≤ lastI m ∧ lastI m ≤ 34 := by
  unfold G.lastI
  cases h : lastBid m with
  | none => simp
  | some y => have := (g.bid h).2; simp; omega

theorem ways_pos (dl : Nat) {m : Made} (g : Good m) : waysP (posOf dl m) = ways dl m := by
  unfold waysP ways
  rw [atEnd_posOf]
  by_cases ho : over m = true
  · rw [if_pos ho, if_pos ho]
  · rw [if_neg ho, if_neg ho]
    cases hb : lastBid m with
    | none =>
      have e : (posOf dl m).bid = -1 := by show lastI m = -1; unfold lastI; rw [hb]
      rw [if_pos e]
      show 1 + (4 - passes m) * sums.getD 0 0 = 1 + (4 - passes m) * behind 35
      rw [sums_get 0 (by omega)]
    | some y =>
      have e : (posOf dl m).bid = (y.2 : Int) := by show lastI m = _; unfold lastI; rw [hb]
      have e2 : ¬ (posOf dl m).bid = -1 := by rw [e]; omega
      rw [if_neg e2, e]
      have hy := (g.bid hb).2
      show waysB (doubled m) (passes m) (byOther dl m) (sums.getD ((y.2 : Int) + 1).toNat 0) = _
      have e3 : ((y.2 : Int) + 1).toNat = y.2 + 1 := by omega
      rw [e3, sums_get _ (by omega)]
      have e4 : 35 - (y.2 + 1) = 34 - y.2 := by omega
      rw [e4]
      have hp : passes m ≤ 2 := by
        unfold over at ho
        rw [hb] at ho
        simp at ho
        omega
      have t := tail_eq (doubled m) (passes m) (!sameSide y.1 (turn dl m)) (doubled_le m) hp (behind (34 - y.2))
      show _ = (tail STEPS (doubled m) (passes m) (!sameSide y.1 (turn dl m))).1 + (tail STEPS (doubled m) (passes m) (!sameSide y.1 (turn dl m))).2 * behind (34 - y.2)
      rw [t]
      rcases other_bid g.dbl dl hb with h | h
      · rw [h]
      · rw [h]
        exact waysB_2 _ _ _ _ hp
end G
namespace G
open PySem PySem.Spec PyProof.Rows L2 Evl
abbrev Mds := List (Nat × Nat)

/-- the written part, the classes Table, Session, Position -/
structure Cn where
  K : PySem.W.Frag
  CT : Addr
  CS : Addr
  CP : Addr
abbrev top (i : Nat) : Stmt := PySem.Challenge.pw_bridgebids_s01_answers.main.body.getD i (.Pass ⟨0, 0, 0, 0⟩)

/-! ### operators -/
abbrev rAddI : R2 := rI0 fun i j => .int (i + j)
abbrev rSubI : R2 := rI0 fun i j => .int (i - j)
abbrev rMulI : R2 := rI CMul fun i j => .int (i * j)
abbrev rModI : R2 := rI (fun _ j => 0 < j) fun i j => .int (i % j)
abbrev rDivI : R2 := rI CDiv fun i j => .int (i / j)
abbrev rLtI : R2 := rI0 fun i j => .bl (decide (i < j))
abbrev rLeI : R2 := rI0 fun i j => .bl (decide (i ≤ j))
abbrev rGtI : R2 := rI0 fun i j => .bl (decide (j < i))
abbrev rGeI : R2 := rI0 fun i j => .bl (decide (j ≤ i))
abbrev rNegI : V → Hp → VK → Prop := rU fun i => .int (-i)
def rStrAdd : R2 := fun x y H Q => ∃ i j, x = .str i ∧ y = .str j ∧ i.length + j.length ≤ sizeLine ∧ Q (.str (i ++ j)) H
def rStrOf : List V → Hp → VK → Prop := fun xs H Q => ∃ i, xs = [.int i] ∧ i.natAbs.log2 < 1920 ∧ Q (.str (toString i)) H
def rOrd : List V → Hp → VK → Prop := fun xs H Q => ∃ x, xs = [.str x] ∧ x.length = 1 ∧ Q (.int (x.cps.getD 0 0 : Nat)) H
def rInsert : V → List V → Hp → VK → Prop := fun x vs H Q => ∃ (l : Addr) (xs : List V) (i : Int) (y : V), x = .ref l ∧ vs = [.int i, y] ∧ H l = some (.lst xs) ∧ xs.length < sizeLine ∧ 0 ≤ i ∧ i < 2 ^ 63 ∧ Q .non (upd H l (.lst (xs.take i.toNat ++ [y] ++ xs.drop i.toNat)))
def rJoin (K : PySem.W.Frag) : V → List V → Hp → VK → Prop := fun x xs H Q => ∃ a p, ∃ ys : List Str, x = .str a ∧ xs = [.ref p] ∧ (SqL K H p (ys.map V.str) ∨ SqT K H p (ys.map V.str)) ∧ (ys.map (·.length)).sum + ys.length * a.length ≤ 16777216 ∧ Q (.str (Txt.join a ys)) H

/-! ### a def that can be called by its name -/
/-- the def of the text stands where its name says -/
structure DefAt (K : PySem.W.Frag) (mg : Str → Option Value) (x : Str) (st : Stmt) : Prop where
  ex : ∃ (f : Addr) (fd : FuncData), mg x = some (.ref f) ∧ Fun K x x st f fd
/-- the def keeps its promise -/
structure FnAt (P : Program) (w : World) (K : PySem.W.Frag) (mg : Str → Option Value) (base : Heap) (k : Nat) (x : Str) (ps : List Str) (sp : Sp) : Prop where
  ex : ∃ (f : Addr) (fd : FuncData), FnOk P w K mg base CX0 k f fd ps sp ∧ mg x = some (.ref f) ∧ PySem.W.keepIn K (.ref f) = true ∧ Binds K fd ps [] ∧ ∃ (oc : Value) (od : Option Addr) (osl : Array (Option Value)), K.lookup f = some ⟨oc, od, .func fd, osl⟩
/-- a class whose __init__ keeps its promise -/
structure MkAt (P : Program) (w : World) (K : PySem.W.Frag) (mg : Str → Option Value) (base : Heap) (k : Nat) (x : Str) (C : Addr) (ps : List Str) (sp : Sp) : Prop where
  ex : ∃ (f : Addr) (fd : FuncData), Mk K C f ∧ FnOk P w K mg base CX0 k f fd ps sp ∧ mg x = some (.ref C) ∧ Binds K fd ps []
/-- a whole number of the module -/
def GInt (mg : Str → Option Value) (x : Str) (i : Int) : Prop := ∃ t, mg x = some (.int i t)
def GStr (mg : Str → Option Value) (x : Str) (z : Str) : Prop := ∃ t, mg x = some (.str z t)
section
variable {X : Cx} {k : Nat} {x : Str} {ps : List Str} {sp : Sp} {e : Expr} {es : List Expr} {t : TA} {p pos : Pos} {C : Addr}
theorem pe_callF (F : FnAt X.prog X.w X.K X.mg X.base k x ps sp) (hr : Room k X.A) (hg : Gl X x) (ha : PA X (e :: es) t) (hdb : (x == ("__debug__" : Str)) = false := by decide +kernel)
    (he : starEach (e :: es) X.env = (false, eval e X.env) :: starEach es X.env := by rfl) (hpl : (backTo pos (starEach es X.env)).any (·.1) = false := by rfl) :
    PE X (.Call (.Name x p) (e :: es) [] pos) (tCall sp [] E0 t) := by
  obtain ⟨f, fd, h1, h2, h3, h4, _⟩ := F.ex
  exact pe_call h1 hr hg h2 h3 h4 .nil pass0 ha hdb he hpl
theorem pe_callF0 (F : FnAt X.prog X.w X.K X.mg X.base k x ps sp) (hr : Room k X.A) (hg : Gl X x) (hdb : (x == ("__debug__" : Str)) = false := by decide +kernel) :
    PE X (.Call (.Name x p) [] [] pos) (tCall sp [] E0 tNil) := by
  obtain ⟨f, fd, h1, h2, h3, h4, _⟩ := F.ex
  exact pe_call0 h1 hr hg h2 h3 h4 .nil pass0 hdb
theorem pe_makeF (F : MkAt X.prog X.w X.K X.mg X.base k x C ps sp) (hr : Room (k + 1) X.A) (hg : Gl X x) (ha : PA X (e :: es) t) (hdb : (x == ("__debug__" : Str)) = false := by decide +kernel)
    (he : starEach (e :: es) X.env = (false, eval e X.env) :: starEach es X.env := by rfl) (hpl : (backTo pos (starEach es X.env)).any (·.1) = false := by rfl) :
    PE X (.Call (.Name x p) (e :: es) [] pos) (tMake C sp [] E0 t) := by
  obtain ⟨f, fd, h1, h2, h3, h4⟩ := F.ex
  exact pe_make h1 h2 hr hg h3 h4 .nil pass0 ha hdb he hpl
theorem pe_makeF0 (F : MkAt X.prog X.w X.K X.mg X.base k x C ps sp) (hr : Room (k + 1) X.A) (hg : Gl X x) (hdb : (x == ("__debug__" : Str)) = false := by decide +kernel) :
    PE X (.Call (.Name x p) [] [] pos) (tMake C sp [] E0 tNil) := by
  obtain ⟨f, fd, h1, h2, h3, h4⟩ := F.ex
  exact pe_make0 h1 h2 hr hg h3 h4 .nil pass0 hdb
theorem pe_gi {i : Int} (h : GInt X.mg x i) (hg : Gl X x) (hd : (x == ("__debug__" : Str)) = false := by decide +kernel) : PE X (.Name x pos) (tC (.int i)) := by
  obtain ⟨u, hu⟩ := h
  exact pe_glob hg hu ⟨u, rfl⟩ hd
theorem pe_gs {z : Str} (h : GStr X.mg x z) (hg : Gl X x) (hd : (x == ("__debug__" : Str)) = false := by decide +kernel) : PE X (.Name x pos) (tC (.str z)) := by
  obtain ⟨u, hu⟩ := h
  exact pe_glob hg hu ⟨u, rfl⟩ hd
theorem pe_gr {a : Addr} (h : X.mg x = some (.ref a)) (hg : Gl X x) (hd : (x == ("__debug__" : Str)) = false := by decide +kernel) : PE X (.Name x pos) (tC (.ref a)) := pe_glob hg h rfl hd
end
section
variable {P : Program} {w : World} {K : PySem.W.Frag} {mg : Str → Option Value} {base : Heap}
/-- THE RULE for a def: at level k + 1 its body at level k -/
theorem DefAt.fn {x : Str} {st : Stmt} {N ps : List Str} {k : Nat} {sp : Sp} (F : DefAt K mg x st) (S : FnScope N ps (defScope st))
    (hb : ∀ (kV doc pm : Value) (an : Option Addr) (cdv ct : Value) (us : List Value), us.length = ps.length → bindArgs (PySem.W.fnOf x x (defArgs st) (defBody st) (defScope st) .none kV doc pm an cdv ct) ⟨us, []⟩ = pure (ps.zip us))
    (len : ∀ vs H Q E, sp vs H Q E → vs.length = ps.length) (t : TS)
    (hp : ∀ vs H Q E, sp vs H Q E → t { nx := fun _ H' => Q .non H', rt := Q } (start N vs) H)
    (hbody : ∀ (f : Addr) (cdv : Value) (A : Around) (outer : List Env) (s : Shared) (H : Hp) (E : XK), Room k (A.deeper (envOfC x (defScope st) s.heap.objs.size f cdv)) →
      PSs (cxOf CX0 P w K mg base N x (defScope st) f cdv A outer s H E).nox (defBody st) t) : FnAt P w K mg base (k + 1) x ps sp := by
  obtain ⟨f, fd, hm, F⟩ := F.ex
  exact ⟨f, fd, F.ok S len fun cdv A outer s H vs Q E hr h => ⟨t, hbody f cdv A outer s H E hr, hp vs H Q E h⟩, hm, F.kp, F.binds hb, let ⟨oc, od, _, _, _, _, _, _, osl, _, lk, _⟩ := F.ex; ⟨oc, od, osl, lk⟩⟩
/-- the __init__ of a class -/
structure InitAt (K : PySem.W.Frag) (mg : Str → Option Value) (x : Str) (C : Addr) (st : Stmt) (qual : Str) : Prop where
  ex : ∃ (f : Addr) (fd : FuncData), Mk K C f ∧ mg x = some (.ref C) ∧ Fun K "__init__" qual st f fd
theorem InitAt.fn {x qual : Str} {C : Addr} {st : Stmt} {N ps : List Str} {k : Nat} {sp : Sp} (F : InitAt K mg x C st qual) (S : FnScope N ps (defScope st))
    (hb : ∀ (kV doc pm : Value) (an : Option Addr) (cdv ct : Value) (us : List Value), us.length = ps.length → bindArgs (PySem.W.fnOf "__init__" qual (defArgs st) (defBody st) (defScope st) .none kV doc pm an cdv ct) ⟨us, []⟩ = pure (ps.zip us))
    (len : ∀ vs H Q E, sp vs H Q E → vs.length = ps.length) (t : TS)
    (hp : ∀ vs H Q E, sp vs H Q E → t { nx := fun _ H' => Q .non H', rt := Q } (start N vs) H)
    (hbody : ∀ (f : Addr) (cdv : Value) (A : Around) (outer : List Env) (s : Shared) (H : Hp) (E : XK), Room k (A.deeper (envOfC qual (defScope st) s.heap.objs.size f cdv)) →
      PSs (cxOf CX0 P w K mg base N qual (defScope st) f cdv A outer s H E).nox (defBody st) t) : MkAt P w K mg base (k + 1) x C ps sp := by
  obtain ⟨f, fd, hm, hx, F⟩ := F.ex
  exact ⟨f, fd, hm, F.ok S len fun cdv A outer s H vs Q E hr h => ⟨t, hbody f cdv A outer s H E hr, hp vs H Q E h⟩, hx, F.binds hb⟩
theorem FnOk.mono {CX : CXT} {j k : Nat} {f : Addr} {fd : FuncData} {ps : List Str} {sp : Sp} (F : FnOk P w K mg base CX j f fd ps sp) (h : j ≤ k) : FnOk P w K mg base CX k f fd ps sp :=
  ⟨F.len, fun A outer s H args us vs Q E hr e0 hb r hsp => F.run A outer s H args us vs Q E (hr.mono h) e0 hb r hsp⟩
theorem FnAt.mono {j k : Nat} {x : Str} {ps : List Str} {sp : Sp} (F : FnAt P w K mg base j x ps sp) (h : j ≤ k) : FnAt P w K mg base k x ps sp :=
  let ⟨f, fd, h1, h2⟩ := F.ex; ⟨f, fd, FnOk.mono h1 h, h2⟩
theorem MkAt.mono {j k : Nat} {x : Str} {C : Addr} {ps : List Str} {sp : Sp} (F : MkAt P w K mg base j x C ps sp) (h : j ≤ k) : MkAt P w K mg base k x C ps sp :=
  let ⟨f, fd, h1, h2, h3⟩ := F.ex; ⟨f, fd, h1, FnOk.mono h2 h, h3⟩
end

/-! ### statements over a heap that only grows: H is where the facts stand -/
def StX (t : TS) (D : Ends) (σ : L2.St) (H : Hp) : Prop := ∀ H1, Ex H H1 → t D σ H1
/-- what comes next, over any larger heap -/
def NxX (N : L2.St → Hp → Prop) (σ : L2.St) (H : Hp) : Prop := ∀ H1, Ex H H1 → N σ H1
section
variable {K : PySem.W.Frag} {σ : L2.St} {H H' : Hp} {ta tb te tx : TE} {t u : TT} {x y z v : V} {D : Ends} {tu tw tz : TS} {g : TG}
theorem StX.go (h : StX tu D σ H) : tu D σ H := h H (Ex.refl H)
theorem StX.mono (e : Ex H H') (h : StX tu D σ H) : StX tu D σ H' := fun H1 e1 => h H1 (e.trans e1)
theorem RetV.mono {Q : VK} (e : Ex H H') (h : RetV v H Q) : RetV v H' Q := fun H1 e1 => h H1 (e.trans e1)
theorem x_ret (h : Ev te σ H v) (k : RetV v H D.rt) : StX (tRet te) D σ H := fun H1 e => s_ret (h.mono e) fun H2 e2 => k H2 (e.trans e2)
theorem x_retN (k : RetV .non H D.rt) : StX tRetN D σ H := fun H1 e => k H1 e
theorem x_retL {xs : List V} (h : EvL te σ H xs) (k : ∀ p H1, H p = none → Ex H H1 → H1 p = some (.lst xs) → D.rt (.ref p) H1) : StX (tRet te) D σ H :=
  fun H1 e => s_retL (h.mono e) fun p H2 hp e2 h2 => k p H2 (fresh_back e hp) (e.trans e2) h2
theorem x_retU {xs : List V} (h : EvU te σ H xs) (k : ∀ p H1, H p = none → Ex H H1 → H1 p = some (.tup xs) → D.rt (.ref p) H1) : StX (tRet te) D σ H :=
  fun H1 e => h H1 e _ fun p H2 hp e2 h2 => k p H2 (fresh_back e hp) (e.trans e2) h2
theorem x_nx (k : NxX D.nx σ H) : StX tNext D σ H := fun H1 e => k H1 e
theorem x_brk (k : NxX D.bk σ H) : StX tBreak D σ H := fun H1 e => k H1 e
theorem x_seq (h : StX tu { D with nx := tz D } σ H) : StX (tSeq tu tz) D σ H := fun H1 e => h H1 e
theorem x_asg {i : Nat} (h : Ev te σ H v) (k : NxX D.nx (σ.set i (some v)) H) : StX (tAsg te (gName i)) D σ H := fun H1 e => s_asg (h.mono e) fun H2 e2 => k H2 (e.trans e2)
theorem x_asgL {i : Nat} {xs : List V} (h : EvL te σ H xs) (k : ∀ p H1, H p = none → Ex H H1 → H1 p = some (.lst xs) → D.nx (σ.set i (some (.ref p))) H1) : StX (tAsg te (gName i)) D σ H :=
  fun H1 e => s_asgL (h.mono e) fun p H2 hp e2 h2 => k p H2 (fresh_back e hp) (e.trans e2) h2
theorem x_if {b : Bool} (h : EvT t σ H b) (h1 : b = true → StX tu D σ H) (h2 : b = false → StX tw D σ H) : StX (tIfS t tu tw) D σ H :=
  fun H1 e => s_if ((EvT.mono e h)) (fun hb H2 e2 => h1 hb H2 (e.trans e2)) fun hb H2 e2 => h2 hb H2 (e.trans e2)
/-- an if whose body leaves -/
theorem x_when {b : Bool} (h : EvT t σ H b) (h1 : b = true → StX tu { D with nx := tz D } σ H) (h2 : b = false → StX tz D σ H) : StX (tSeq (tIfS t tu tNext) tz) D σ H :=
  fun H1 e => q_when ((EvT.mono e h)) (fun hb H2 e2 => h1 hb H2 (e.trans e2)) fun hb H2 e2 => h2 hb H2 (e.trans e2)
theorem x_if2 {b : Bool} (h : EvT t σ H b) (h1 : b = true → StX tu { D with nx := tz D } σ H) (h2 : b = false → StX tw { D with nx := tz D } σ H) : StX (tSeq (tIfS t tu tw) tz) D σ H :=
  fun H1 e => q_if ((EvT.mono e h)) (fun hb H2 e2 => h1 hb H2 (e.trans e2)) fun hb H2 e2 => h2 hb H2 (e.trans e2)
theorem x_set {i : Nat} (h : Ev te σ H v) (k : StX tz D (σ.set i (some v)) H) : StX (tSeq (tAsg te (gName i)) tz) D σ H := fun H1 e => q_asg (h.mono e) fun H2 e2 => k H2 (e.trans e2)
theorem x_setL {i : Nat} {xs : List V} (h : EvL te σ H xs) (k : ∀ p H1, H p = none → Ex H H1 → H1 p = some (.lst xs) → StX tz D (σ.set i (some (.ref p))) H1) : StX (tSeq (tAsg te (gName i)) tz) D σ H :=
  fun H1 e => q_asgL (h.mono e) fun p H2 hp e2 h2 => k p H2 (fresh_back e hp) (e.trans e2) h2 H2 (Ex.refl H2)
end

/-! ### the calls made: a list of pairs -/
def pairHO (x : Nat × Nat) : HO := .tup [.int (x.1 : Nat), .int (x.2 : Nat)]
def PairsAt (H : Hp) (vs : List V) (m : Mds) : Prop := vs.length = m.length ∧ ∀ (i : Nat) (x : Nat × Nat), m[i]? = some x → ∃ p, vs[i]? = some (.ref p) ∧ H p = some (pairHO x)
def MadeAt (H : Hp) (a : Addr) (m : Mds) : Prop := ∃ vs, H a = some (.lst vs) ∧ PairsAt H vs m
theorem PairsAt.mono {H H' : Hp} {vs : List V} {m : Mds} (h : PairsAt H vs m) (e : Ex H H') : PairsAt H' vs m :=
  ⟨h.1, fun i x hx => let ⟨p, h1, h2⟩ := h.2 i x hx; ⟨p, h1, e _ _ h2⟩⟩
theorem MadeAt.mono {H H' : Hp} {a : Addr} {m : Mds} (h : MadeAt H a m) (e : Ex H H') : MadeAt H' a m :=
  let ⟨vs, h1, h2⟩ := h; ⟨vs, e _ _ h1, h2.mono e⟩
theorem PairsAt.nil {H : Hp} : PairsAt H [] [] := ⟨rfl, fun i x h => by simp at h⟩
theorem PairsAt.snoc {H : Hp} {vs : List V} {m : Mds} {p : Addr} {x : Nat × Nat} (h : PairsAt H vs m) (hp : H p = some (pairHO x)) : PairsAt H (vs ++ [.ref p]) (m ++ [x]) := by
  refine ⟨by simp [h.1], fun i y hy => ?_⟩
  by_cases hi : i < m.length
  · rw [List.getElem?_append_left hi] at hy
    rw [List.getElem?_append_left (by rw [h.1]; exact hi)]
    exact h.2 i y hy
  · rw [List.getElem?_append_right (by omega)] at hy
    rw [List.getElem?_append_right (by rw [h.1]; omega)]
    have e : i - m.length = 0 := by
      cases q : i - m.length with
      | zero => rfl
      | succ n => rw [q] at hy; simp at hy
    rw [e] at hy
    simp at hy
    subst hy
    rw [h.1, e]
    exact ⟨p, by simp, hp⟩
theorem PairsAt.take {H : Hp} {vs : List V} {m : Mds} (n : Nat) (h : PairsAt H vs m) : PairsAt H (vs.take n) (m.take n) := by
  refine ⟨by simp [h.1], fun i y hy => ?_⟩
  rw [List.getElem?_take] at hy ⊢
  split at hy
  · rename_i hi
    rw [if_pos hi]
    exact h.2 i y hy
  · cases hy

section
variable {K : PySem.W.Frag} {σ : L2.St} {H : Hp} {tl : TE} {D : Ends} {tb : TS} {a : Addr} {m : Mds} {k1 k2 : Nat}
abbrev gPair (K : PySem.W.Frag) (k1 k2 : Nat) : TG := gTup K 2 (gCons (gName k1) (gCons (gName k2) gNil))
theorem g_pair {H : Hp} {p : Addr} {x : Nat × Nat} {Q : L2.St → Hp → Prop} (hp : H p = some (pairHO x)) (q : Q ((σ.set k1 (some (.int (x.1 : Nat)))).set k2 (some (.int (x.2 : Nat)))) H) : gPair K k1 k2 (.ref p) σ H Q :=
  ⟨p, _, rfl, SqT.of hp, rfl, _, _, rfl, _, _, rfl, rfl, q⟩
/-- for seat, call in reversed(made): the body reads only -/
theorem x_forRev (hM : MadeAt H a m) (h : Ev tl σ H (.ref a)) (Pv : Nat → L2.St → Prop) (h0 : Pv 0 σ)
    (hs : ∀ i x σ', m.reverse[i]? = some x → Pv i σ' → StX tb { D with nx := fun σ2 H2 => Ex H H2 ∧ Pv (i + 1) σ2, ct := fun σ2 H2 => Ex H H2 ∧ Pv (i + 1) σ2, bk := D.nx } ((σ'.set k1 (some (.int (x.1 : Nat)))).set k2 (some (.int (x.2 : Nat)))) H)
    (hd : ∀ σ', Pv m.length σ' → NxX D.nx σ' H) : StX (tFor (iRev K (tCons tl tNil)) (gPair K k1 k2) tb) D σ H := by
  intro H0 e0
  obtain ⟨vs, h1, h2⟩ := hM
  refine h H0 e0 _ fun H1 e1 => ⟨a, vs, rfl, SqL.of (e1 _ _ (e0 _ _ h1)), ?_⟩
  refine ⟨fun i n σ' H' => n = vs.length - i ∧ i ≤ vs.length ∧ Ex H H' ∧ Pv i σ', ⟨vs.length, by simp, Nat.zero_le _, e0.trans e1, h0⟩, ?_⟩
  rintro i n σ' H' ⟨rfl, hi, e, p⟩
  by_cases hlt : i < vs.length
  · have hx : ∃ x, m.reverse[i]? = some x := ⟨m.reverse[i]'(by rw [List.length_reverse, ← h2.1]; exact hlt), List.getElem?_eq_getElem _⟩
    obtain ⟨x, hx⟩ := hx
    have hx' : m[vs.length - 1 - i]? = some x := by
      rw [h2.1, ← List.getElem?_reverse (by rw [← h2.1]; exact hlt)]
      exact hx
    obtain ⟨q, hq1, hq2⟩ := h2.2 _ _ hx'
    refine .inr ⟨⟨hlt, vs, _, SqL.of (e _ _ h1), hq1⟩, fun σ2 H2 => Ex H H2 ∧ Pv (i + 1) σ2, fun σ2 H2 hn => ⟨vs.length - (i + 1), by omega, rfl, hlt, hn.1, hn.2⟩, ?_⟩
    rintro y H'' ⟨rfl, hy⟩
    have ey := hy vs (SqL.of (e _ _ h1))
    rw [hq1] at ey
    obtain rfl := Option.some.inj ey
    exact g_pair (e _ _ hq2) (hs i x σ' hx p _ e)
  · have ei : i = vs.length := by omega
    subst ei
    rw [h2.1] at p
    exact .inl ⟨Nat.le_refl _, hd σ' p H' e⟩
/-- for seat, call in made: the body reads only -/
theorem x_forMade (hM : MadeAt H a m) (h : Ev tl σ H (.ref a)) (Pv : Nat → L2.St → Prop) (h0 : Pv 0 σ)
    (hs : ∀ i x σ', m[i]? = some x → Pv i σ' → StX tb { D with nx := fun σ2 H2 => Ex H H2 ∧ Pv (i + 1) σ2, ct := fun σ2 H2 => Ex H H2 ∧ Pv (i + 1) σ2, bk := D.nx } ((σ'.set k1 (some (.int (x.1 : Nat)))).set k2 (some (.int (x.2 : Nat)))) H)
    (hd : ∀ σ', Pv m.length σ' → NxX D.nx σ' H) : StX (tFor (iList K tl) (gPair K k1 k2) tb) D σ H := by
  intro H0 e0
  obtain ⟨vs, h1, h2⟩ := hM
  refine h H0 e0 _ fun H1 e1 => ⟨a, rfl, ⟨vs, SqL.of (e1 _ _ (e0 _ _ h1))⟩, ?_⟩
  refine for_list (xs := vs) (fun i σ' H' => Ex H H' ∧ Pv i σ') ⟨e0.trans e1, h0⟩ (fun i σ' H' _ q => SqL.of (q.1 _ _ h1)) (fun i y σ' H' hy q => ?_) fun σ' H' q => hd σ' (by rw [← h2.1]; exact q.2) H' q.1
  have hlt : i < m.length := by rw [← h2.1]; exact (List.getElem?_eq_some_iff.mp hy).1
  obtain ⟨p, hp1, hp2⟩ := h2.2 i m[i] (List.getElem?_eq_getElem hlt)
  rw [hp1] at hy
  obtain rfl := Option.some.inj hy
  exact g_pair (q.1 _ _ hp2) (hs i m[i] σ' (List.getElem?_eq_getElem hlt) q.2 H' q.1)
end

/-! ### promises of defs that only read and make new things -/
/-- asked: R; given: a value z -/
def RetSp (R : List V → Hp → V → Prop) : Sp := fun vs H Q _ => ∃ z, R vs H z ∧ RetV z H Q
theorem RetSp.sv {R : List V → Hp → V → Prop} {vs : List V} {H : Hp} {z : V} (h : ∀ H1, Ex H H1 → R vs H1 z) : SpV (RetSp R) (vs ++ []) H z := fun H1 e Q q E => by
  rw [List.append_nil]
  exact ⟨z, h H1 e, fun H2 e2 => q H2 e2⟩
end G

namespace G
open PySem PySem.Spec PyProof.Rows L2 Evl
/-! ### from what the top has written -/
section
variable {K : PySem.W.Frag} {h : Heap} {mg : Str → Option Value}
theorem DefAt.mk' {x : Str} {st : Stmt} {f : Addr} {oc : Value} {od an : Option Addr} {osl : Array (Option Value)} {kV doc pm cdv ct : Value} (X : K.In h) (N : h.Ns mainGlobals mg)
    (a : PySem.W.nsIn K mainGlobals x = some (some (.ref f))) (l : K.lookup f = some ⟨oc, od, .func (PySem.W.fnOf x x (defArgs st) (defBody st) (defScope st) .none kV doc pm an cdv ct), osl⟩)
    (c : PySem.W.codeIn K cdv x = true) (k : PySem.W.keepIn K (.ref f) = true) : DefAt K mg x st :=
  ⟨f, _, PySem.W.mg_of X N a, fun_mk l c k⟩
theorem InitAt.mk' {x qual : Str} {C f : Addr} {st : Stmt} {oc : Value} {od an : Option Addr} {osl : Array (Option Value)} {kV doc pm cdv ct : Value} (X : K.In h) (N : h.Ns mainGlobals mg)
    (aC : PySem.W.nsIn K mainGlobals x = some (some (.ref C))) (mk : PySem.W.makesIn K C = true) (a : PySem.W.findIn K (.ref C) "__init__" = some (some (.ref f))) (i : PySem.W.isFn K (.ref f) = true) (kc : PySem.W.keepIn K (.ref C) = true)
    (l : K.lookup f = some ⟨oc, od, .func (PySem.W.fnOf "__init__" qual (defArgs st) (defBody st) (defScope st) .none kV doc pm an cdv ct), osl⟩)
    (c : PySem.W.codeIn K cdv qual = true) (k : PySem.W.keepIn K (.ref f) = true) : InitAt K mg x C st qual :=
  ⟨f, _, ⟨mk, a, i, kc⟩, PySem.W.mg_of X N aC, fun_mk l c k⟩
theorem GInt.mk' {x : Str} {i : Int} {t : Tok} (X : K.In h) (N : h.Ns mainGlobals mg) (a : PySem.W.nsIn K mainGlobals x = some (some (.int i t))) : GInt mg x i := ⟨t, PySem.W.mg_of X N a⟩
theorem GStr.mk' {x z : Str} {t : Tok} (X : K.In h) (N : h.Ns mainGlobals mg) (a : PySem.W.nsIn K mainGlobals x = some (some (.str z t))) : GStr mg x z := ⟨t, PySem.W.mg_of X N a⟩
/-- a tuple of the module's top -/
def TupK (K : PySem.W.Frag) (a : Addr) (vs : List V) : Prop := ∃ (o : Obj) (its : Array Value) (n : Nat), K.lookup a = some o ∧ o.cls = .type "tuple" ∧ o.data = .seq its n ∧ its.size ≤ sizeLine ∧ Vals vs its.toList
theorem TupK.sq {a : Addr} {vs : List V} {H : Hp} (t : TupK K a vs) : SqT K H a vs := .inr t
/-- the table of the calls' shapes: of each how many whole numbers, how many rows -/
def ShapesAt (K : PySem.W.Frag) (a : Addr) (sh : List (Int × Int)) : Prop := ∃ as : List Addr, TupK K a (as.map V.ref) ∧ as.length = sh.length ∧ ∀ (i : Nat) (b : Addr) (x : Int × Int), as[i]? = some b → sh[i]? = some x → TupK K b [.int x.1, .int x.2]
/-- all that is asked of a class -/
structure ClsFs (K : PySem.W.Frag) (C : Addr) (fs : List Str) : Prop where
  cl : Cls K C
  no : ∀ f ∈ fs, NoAttr K C f
end
end G
namespace G
open PySem PySem.Spec PyProof.Rows L2 Evl
/-- what the module's top has written of constants and built-ins -/
structure Tx (c : Cn) (mg : Str → Option Value) : Prop where
  i_BIDS : GInt mg "BIDS" 35
  i_BID_WITHDRAWN : GInt mg "BID_WITHDRAWN" 4
  i_BLANK : GInt mg "BLANK" 32
  i_CALLS : GInt mg "CALLS" 38
  i_CALL_WITHDRAWN : GInt mg "CALL_WITHDRAWN" 6
  i_DOUBLE : GInt mg "DOUBLE" 1
  i_FEWER_DONE : GInt mg "FEWER_DONE" (-14)
  i_FIRST_BID : GInt mg "FIRST_BID" 3
  i_IS_OVER : GInt mg "IS_OVER" (-4)
  s_LETTERS : GStr mg "LETTERS" "CDHSN"
  i_MOST_BOARD : GInt mg "MOST_BOARD" 1000000000
  i_MOST_DONE : GInt mg "MOST_DONE" 320
  i_MOST_UNDONE : GInt mg "MOST_UNDONE" 400
  i_MUST_MEND : GInt mg "MUST_MEND" (-8)
  i_MUST_PASS : GInt mg "MUST_PASS" (-6)
  i_NOTHING_WAITS : GInt mg "NOTHING_WAITS" (-7)
  i_NOTHING_WRONG : GInt mg "NOTHING_WRONG" 0
  i_NOT_LEGAL : GInt mg "NOT_LEGAL" 2
  i_NOT_OVER : GInt mg "NOT_OVER" (-10)
  i_NOT_TURN_BY_TURN : GInt mg "NOT_TURN_BY_TURN" (-11)
  i_NO_AUCTION : GInt mg "NO_AUCTION" (-3)
  i_NO_BID : GInt mg "NO_BID" (-1)
  i_NO_CALL : GInt mg "NO_CALL" 1
  i_NO_SUCH_AUCTION : GInt mg "NO_SUCH_AUCTION" (-13)
  i_OUT_OF_RANGE : GInt mg "OUT_OF_RANGE" (-1)
  i_OUT_OF_TURN : GInt mg "OUT_OF_TURN" 2
  i_OVER_BEFORE : GInt mg "OVER_BEFORE" 3
  i_PASS : GInt mg "PASS" 0
  i_PASS_WITHDRAWN : GInt mg "PASS_WITHDRAWN" 5
  i_REDOUBLE : GInt mg "REDOUBLE" 2
  i_STANDS : GInt mg "STANDS" 0
  i_STRAINS : GInt mg "STRAINS" 5
  i_TOO_LOW : GInt mg "TOO_LOW" 1
  i_TOO_MANY_DONE : GInt mg "TOO_MANY_DONE" (-9)
  i_WAITS : GInt mg "WAITS" (-5)
  i_WITHDRAWN_AT_ONCE : GInt mg "WITHDRAWN_AT_ONCE" 3
  i_WRONG_TEXT : GInt mg "WRONG_TEXT" (-12)
  b_all : mg "all" = none
  b_enumerate : mg "enumerate" = none
  b_len : mg "len" = none
  b_list : mg "list" = none
  b_max : mg "max" = none
  b_ord : mg "ord" = none
  b_range : mg "range" = none
  b_reversed : mg "reversed" = none
  b_str : mg "str" = none

abbrev s_side_of : Stmt := top 9
theorem sc_side_of : FnScope ["seat"] ["seat"] (defScope s_side_of) := ⟨rfl, rfl, rfl, by decide +kernel, rfl, by decide +kernel, by decide +kernel⟩
def t_side_of (c : Cn) : TS :=
  (tRet (tOp rModI (tVar 0) (tC (.int 2))))
theorem d_side_of {P : Program} {w : World} {c : Cn} {mg : Str → Option Value} {base : Heap} {k : Nat} {sp  : Sp} (T : Tx c mg) (D : DefAt c.K mg "side_of" s_side_of) 
    (len : ∀ vs H Q E, sp vs H Q E → vs.length = 1)
    (hp : ∀ vs H Q E, sp vs H Q E → (t_side_of c ) { nx := fun _ H' => Q .non H', rt := Q } (start ["seat"] vs) H) : FnAt P w c.K mg base (k + 1) "side_of" ["seat"] sp :=
  D.fn sc_side_of (fun _ _ _ _ _ _ us hl => match us, hl with | [_], _ => rfl) len (t_side_of c ) hp (fun f cdv A outer s H E hr => by
    exact (pss_one (ps_ret (pe_op op_mod (pv 0 rfl (Or.inl rfl)) pe_int))))

abbrev s_partner_of : Stmt := top 10
theorem sc_partner_of : FnScope ["seat"] ["seat"] (defScope s_partner_of) := ⟨rfl, rfl, rfl, by decide +kernel, rfl, by decide +kernel, by decide +kernel⟩
def t_partner_of (c : Cn) : TS :=
  (tRet (tOp rModI (tOp rAddI (tVar 0) (tC (.int 2))) (tC (.int 4))))
theorem d_partner_of {P : Program} {w : World} {c : Cn} {mg : Str → Option Value} {base : Heap} {k : Nat} {sp  : Sp} (T : Tx c mg) (D : DefAt c.K mg "partner_of" s_partner_of) 
    (len : ∀ vs H Q E, sp vs H Q E → vs.length = 1)
    (hp : ∀ vs H Q E, sp vs H Q E → (t_partner_of c ) { nx := fun _ H' => Q .non H', rt := Q } (start ["seat"] vs) H) : FnAt P w c.K mg base (k + 1) "partner_of" ["seat"] sp :=
  D.fn sc_partner_of (fun _ _ _ _ _ _ us hl => match us, hl with | [_], _ => rfl) len (t_partner_of c ) hp (fun f cdv A outer s H E hr => by
    exact (pss_one (ps_ret (pe_op op_mod (pe_op op_add (pv 0 rfl (Or.inl rfl)) pe_int) pe_int))))

abbrev s_last_bid : Stmt := top 11
theorem sc_last_bid : FnScope ["made", "seat", "call"] ["made"] (defScope s_last_bid) := ⟨rfl, rfl, rfl, by decide +kernel, rfl, by decide +kernel, by decide +kernel⟩
def t_last_bid (c : Cn) : TS :=
  (tSeq (tFor (iRev c.K (tCons (tVar 0) tNil)) (gTup c.K 2 (gCons (gName 1) (gCons (gName 2) gNil))) (tIfS (tTest (tOp rGeI (tVar 2) (tC (.int 3)))) (tRet (tOp rSubI (tVar 2) (tC (.int 3)))) tNext))
    (tRet (tC (.int (-1)))))
theorem d_last_bid {P : Program} {w : World} {c : Cn} {mg : Str → Option Value} {base : Heap} {k : Nat} {sp  : Sp} (T : Tx c mg) (D : DefAt c.K mg "last_bid" s_last_bid) 
    (len : ∀ vs H Q E, sp vs H Q E → vs.length = 1)
    (hp : ∀ vs H Q E, sp vs H Q E → (t_last_bid c ) { nx := fun _ H' => Q .non H', rt := Q } (start ["made", "seat", "call"] vs) H) : FnAt P w c.K mg base (k + 1) "last_bid" ["made"] sp :=
  D.fn sc_last_bid (fun _ _ _ _ _ _ us hl => match us, hl with | [_], _ => rfl) len (t_last_bid c ) hp (fun f cdv A outer s H E hr => by
    exact (pss_cons (ps_for PassesOwn.never rfl (pi_reversed rfl T.b_reversed (pa_cons (pv 0 rfl (Or.inl rfl)) pa_nil)) (pg_tup rfl (pgs_cons (pg_name (i := 1) sc_last_bid.nd rfl (Or.inl rfl)) (pgs_cons (pg_name (i := 2) sc_last_bid.nd rfl (Or.inl rfl)) pgs_nil))) (pss_one (ps_if (pt_cmpR op_ge (pv 2 rfl (Or.inl rfl)) (pe_gi T.i_FIRST_BID rfl) (nomark _)) (pss_one (ps_ret (pe_op op_sub (pv 2 rfl (Or.inl rfl)) (pe_gi T.i_FIRST_BID rfl)))) pss_nil))) (pss_one (ps_ret (pe_gi T.i_NO_BID rfl)))))

abbrev s_side_of_last_bid : Stmt := top 12
theorem sc_side_of_last_bid : FnScope ["made", "side", "seat", "call"] ["made"] (defScope s_side_of_last_bid) := ⟨rfl, rfl, rfl, by decide +kernel, rfl, by decide +kernel, by decide +kernel⟩
def t_side_of_last_bid (c : Cn) (p_side_of : Sp) : TS :=
  (tSeq (tAsg (tC (.int 0)) (gName 1))
    (tSeq (tFor (iList c.K (tVar 0)) (gTup c.K 2 (gCons (gName 2) (gCons (gName 3) gNil))) (tIfS (tTest (tOp rGeI (tVar 3) (tC (.int 3)))) (tAsg (tCall p_side_of [] E0 (tCons (tVar 2) tNil)) (gName 1)) tNext))
    (tRet (tVar 1))))
theorem d_side_of_last_bid {P : Program} {w : World} {c : Cn} {mg : Str → Option Value} {base : Heap} {k : Nat} {sp p_side_of : Sp} (T : Tx c mg) (D : DefAt c.K mg "side_of_last_bid" s_side_of_last_bid) (F_side_of : FnAt P w c.K mg base k "side_of" ["seat"] p_side_of)
    (len : ∀ vs H Q E, sp vs H Q E → vs.length = 1)
    (hp : ∀ vs H Q E, sp vs H Q E → (t_side_of_last_bid c p_side_of) { nx := fun _ H' => Q .non H', rt := Q } (start ["made", "side", "seat", "call"] vs) H) : FnAt P w c.K mg base (k + 1) "side_of_last_bid" ["made"] sp :=
  D.fn sc_side_of_last_bid (fun _ _ _ _ _ _ us hl => match us, hl with | [_], _ => rfl) len (t_side_of_last_bid c p_side_of) hp (fun f cdv A outer s H E hr => by
    exact (pss_cons (ps_set (i := 1) sc_side_of_last_bid.nd rfl (Or.inl rfl) pe_int) (pss_cons (ps_for PassesOwn.never rfl (pi_list (pv 0 rfl (Or.inl rfl))) (pg_tup rfl (pgs_cons (pg_name (i := 2) sc_side_of_last_bid.nd rfl (Or.inl rfl)) (pgs_cons (pg_name (i := 3) sc_side_of_last_bid.nd rfl (Or.inl rfl)) pgs_nil))) (pss_one (ps_if (pt_cmpR op_ge (pv 3 rfl (Or.inl rfl)) (pe_gi T.i_FIRST_BID rfl) (nomark _)) (pss_one (ps_set (i := 1) sc_side_of_last_bid.nd rfl (Or.inl rfl) (pe_callF F_side_of hr rfl (pa_cons (pv 2 rfl (Or.inl rfl)) pa_nil)))) pss_nil))) (pss_one (ps_ret (pv 1 rfl (Or.inl rfl)))))))

abbrev s_last_word : Stmt := top 13
theorem sc_last_word : FnScope ["made", "seat", "call"] ["made"] (defScope s_last_word) := ⟨rfl, rfl, rfl, by decide +kernel, rfl, by decide +kernel, by decide +kernel⟩
def t_last_word (c : Cn) : TS :=
  (tSeq (tFor (iRev c.K (tCons (tVar 0) tNil)) (gTup c.K 2 (gCons (gName 1) (gCons (gName 2) gNil))) (tIfS (tTest (tOp rNe (tVar 2) (tC (.int 0)))) (tRet (tTup (tCons (tVar 1) (tCons (tVar 2) tNil)))) tNext))
    (tRet (tC .non)))
theorem d_last_word {P : Program} {w : World} {c : Cn} {mg : Str → Option Value} {base : Heap} {k : Nat} {sp  : Sp} (T : Tx c mg) (D : DefAt c.K mg "last_word" s_last_word) 
    (len : ∀ vs H Q E, sp vs H Q E → vs.length = 1)
    (hp : ∀ vs H Q E, sp vs H Q E → (t_last_word c ) { nx := fun _ H' => Q .non H', rt := Q } (start ["made", "seat", "call"] vs) H) : FnAt P w c.K mg base (k + 1) "last_word" ["made"] sp :=
  D.fn sc_last_word (fun _ _ _ _ _ _ us hl => match us, hl with | [_], _ => rfl) len (t_last_word c ) hp (fun f cdv A outer s H E hr => by
    exact (pss_cons (ps_for PassesOwn.never rfl (pi_reversed rfl T.b_reversed (pa_cons (pv 0 rfl (Or.inl rfl)) pa_nil)) (pg_tup rfl (pgs_cons (pg_name (i := 1) sc_last_word.nd rfl (Or.inl rfl)) (pgs_cons (pg_name (i := 2) sc_last_word.nd rfl (Or.inl rfl)) pgs_nil))) (pss_one (ps_if (pt_cmpR op_ne (pv 2 rfl (Or.inl rfl)) (pe_gi T.i_PASS rfl) (nomark _)) (pss_one (ps_ret (pe_tup (pa_cons (pv 1 rfl (Or.inl rfl)) (pa_cons (pv 2 rfl (Or.inl rfl)) pa_nil))))) pss_nil))) (pss_one (ps_ret pe_non))))

abbrev s_passes_at_end : Stmt := top 14
theorem sc_passes_at_end : FnScope ["made", "count", "seat", "call"] ["made"] (defScope s_passes_at_end) := ⟨rfl, rfl, rfl, by decide +kernel, rfl, by decide +kernel, by decide +kernel⟩
def t_passes_at_end (c : Cn) : TS :=
  (tSeq (tAsg (tC (.int 0)) (gName 1))
    (tSeq (tFor (iRev c.K (tCons (tVar 0) tNil)) (gTup c.K 2 (gCons (gName 2) (gCons (gName 3) gNil))) (tSeq (tIfS (tTest (tOp rNe (tVar 3) (tC (.int 0)))) tBreak tNext)
    (tAsg (tOp rAddI (tVar 1) (tC (.int 1))) (gName 1))))
    (tRet (tVar 1))))
theorem d_passes_at_end {P : Program} {w : World} {c : Cn} {mg : Str → Option Value} {base : Heap} {k : Nat} {sp  : Sp} (T : Tx c mg) (D : DefAt c.K mg "passes_at_end" s_passes_at_end) 
    (len : ∀ vs H Q E, sp vs H Q E → vs.length = 1)
    (hp : ∀ vs H Q E, sp vs H Q E → (t_passes_at_end c ) { nx := fun _ H' => Q .non H', rt := Q } (start ["made", "count", "seat", "call"] vs) H) : FnAt P w c.K mg base (k + 1) "passes_at_end" ["made"] sp :=
  D.fn sc_passes_at_end (fun _ _ _ _ _ _ us hl => match us, hl with | [_], _ => rfl) len (t_passes_at_end c ) hp (fun f cdv A outer s H E hr => by
    exact (pss_cons (ps_set (i := 1) sc_passes_at_end.nd rfl (Or.inl rfl) pe_int) (pss_cons (ps_for PassesOwn.never rfl (pi_reversed rfl T.b_reversed (pa_cons (pv 0 rfl (Or.inl rfl)) pa_nil)) (pg_tup rfl (pgs_cons (pg_name (i := 2) sc_passes_at_end.nd rfl (Or.inl rfl)) (pgs_cons (pg_name (i := 3) sc_passes_at_end.nd rfl (Or.inl rfl)) pgs_nil))) (pss_cons (ps_if (pt_cmpR op_ne (pv 3 rfl (Or.inl rfl)) (pe_gi T.i_PASS rfl) (nomark _)) (pss_one ps_break) pss_nil) (pss_one (ps_set (i := 1) sc_passes_at_end.nd rfl (Or.inl rfl) (pe_op op_add (pv 1 rfl (Or.inl rfl)) pe_int))))) (pss_one (ps_ret (pv 1 rfl (Or.inl rfl)))))))

abbrev s_passes_to_end : Stmt := top 15
theorem sc_passes_to_end : FnScope ["bid"] ["bid"] (defScope s_passes_to_end) := ⟨rfl, rfl, rfl, by decide +kernel, rfl, by decide +kernel, by decide +kernel⟩
def t_passes_to_end (c : Cn) : TS :=
  (tRet (tIf (tTest (tOp rEq (tVar 0) (tC (.int (-1))))) (tC (.int 4)) (tC (.int 3))))
theorem d_passes_to_end {P : Program} {w : World} {c : Cn} {mg : Str → Option Value} {base : Heap} {k : Nat} {sp  : Sp} (T : Tx c mg) (D : DefAt c.K mg "passes_to_end" s_passes_to_end) 
    (len : ∀ vs H Q E, sp vs H Q E → vs.length = 1)
    (hp : ∀ vs H Q E, sp vs H Q E → (t_passes_to_end c ) { nx := fun _ H' => Q .non H', rt := Q } (start ["bid"] vs) H) : FnAt P w c.K mg base (k + 1) "passes_to_end" ["bid"] sp :=
  D.fn sc_passes_to_end (fun _ _ _ _ _ _ us hl => match us, hl with | [_], _ => rfl) len (t_passes_to_end c ) hp (fun f cdv A outer s H E hr => by
    exact (pss_one (ps_ret (pe_ifExp (pt_cmpR op_eq (pv 0 rfl (Or.inl rfl)) (pe_gi T.i_NO_BID rfl) (nomark _)) pe_int pe_int))))

abbrev s_is_over : Stmt := top 16
theorem sc_is_over : FnScope ["made"] ["made"] (defScope s_is_over) := ⟨rfl, rfl, rfl, by decide +kernel, rfl, by decide +kernel, by decide +kernel⟩
def t_is_over (c : Cn) (p_last_bid p_passes_at_end p_passes_to_end : Sp) : TS :=
  (tRet (tOp rGeI (tCall p_passes_at_end [] E0 (tCons (tVar 0) tNil)) (tCall p_passes_to_end [] E0 (tCons (tCall p_last_bid [] E0 (tCons (tVar 0) tNil)) tNil))))
theorem d_is_over {P : Program} {w : World} {c : Cn} {mg : Str → Option Value} {base : Heap} {k : Nat} {sp p_last_bid p_passes_at_end p_passes_to_end : Sp} (T : Tx c mg) (D : DefAt c.K mg "is_over" s_is_over) (F_last_bid : FnAt P w c.K mg base k "last_bid" ["made"] p_last_bid) (F_passes_at_end : FnAt P w c.K mg base k "passes_at_end" ["made"] p_passes_at_end) (F_passes_to_end : FnAt P w c.K mg base k "passes_to_end" ["bid"] p_passes_to_end)
    (len : ∀ vs H Q E, sp vs H Q E → vs.length = 1)
    (hp : ∀ vs H Q E, sp vs H Q E → (t_is_over c p_last_bid p_passes_at_end p_passes_to_end) { nx := fun _ H' => Q .non H', rt := Q } (start ["made"] vs) H) : FnAt P w c.K mg base (k + 1) "is_over" ["made"] sp :=
  D.fn sc_is_over (fun _ _ _ _ _ _ us hl => match us, hl with | [_], _ => rfl) len (t_is_over c p_last_bid p_passes_at_end p_passes_to_end) hp (fun f cdv A outer s H E hr => by
    exact (pss_one (ps_ret (pe_cmpR op_ge (pe_callF F_passes_at_end hr rfl (pa_cons (pv 0 rfl (Or.inl rfl)) pa_nil)) (pe_callF F_passes_to_end hr rfl (pa_cons (pe_callF F_last_bid hr rfl (pa_cons (pv 0 rfl (Or.inl rfl)) pa_nil)) pa_nil)) (nomark _)))))

abbrev s_seat_on_turn : Stmt := top 17
theorem sc_seat_on_turn : FnScope ["dealer", "made"] ["dealer", "made"] (defScope s_seat_on_turn) := ⟨rfl, rfl, rfl, by decide +kernel, rfl, by decide +kernel, by decide +kernel⟩
def t_seat_on_turn (c : Cn) : TS :=
  (tSeq (tIfS (tTest (tOp (rEqD c.K) (tVar 1) (tLst tNil))) (tRet (tVar 0)) tNext)
    (tRet (tOp rModI (tOp rAddI (tOp (rIxT c.K) (tOp (rIxL c.K) (tVar 1) (tUn rNegI (tC (.int 1)))) (tC (.int 0))) (tC (.int 1))) (tC (.int 4)))))
theorem d_seat_on_turn {P : Program} {w : World} {c : Cn} {mg : Str → Option Value} {base : Heap} {k : Nat} {sp  : Sp} (T : Tx c mg) (D : DefAt c.K mg "seat_on_turn" s_seat_on_turn) 
    (len : ∀ vs H Q E, sp vs H Q E → vs.length = 2)
    (hp : ∀ vs H Q E, sp vs H Q E → (t_seat_on_turn c ) { nx := fun _ H' => Q .non H', rt := Q } (start ["dealer", "made"] vs) H) : FnAt P w c.K mg base (k + 1) "seat_on_turn" ["dealer", "made"] sp :=
  D.fn sc_seat_on_turn (fun _ _ _ _ _ _ us hl => match us, hl with | [_, _], _ => rfl) len (t_seat_on_turn c ) hp (fun f cdv A outer s H E hr => by
    exact (pss_cons (ps_if (pt_cmpR (op_eqD hr.units) (pv 1 rfl (Or.inl rfl)) (pe_lst pa_nil) (nomark _)) (pss_one (ps_ret (pv 0 rfl (Or.inl rfl)))) pss_nil) (pss_one (ps_ret (pe_op op_mod (pe_op op_add (pe_ix ix_tup (pe_ix ix_list (pv 1 rfl (Or.inl rfl)) (pe_un un_neg pe_int) (fun _ _ => rfl)) pe_int (fun _ _ => rfl)) pe_int) pe_int)))))

abbrev s_doubled : Stmt := top 18
theorem sc_doubled : FnScope ["made", "word"] ["made"] (defScope s_doubled) := ⟨rfl, rfl, rfl, by decide +kernel, rfl, by decide +kernel, by decide +kernel⟩
def t_doubled (c : Cn) (p_last_word : Sp) : TS :=
  (tSeq (tAsg (tCall p_last_word [] E0 (tCons (tVar 0) tNil)) (gName 1))
    (tSeq (tIfS (tOr (tTest (tOp rIsN (tVar 1) (tC .non))) (tTest (tOp rGeI (tOp (rIxT c.K) (tVar 1) (tC (.int 1))) (tC (.int 3))))) (tRet (tC (.int 0))) tNext)
    (tRet (tOp (rIxT c.K) (tVar 1) (tC (.int 1))))))
theorem d_doubled {P : Program} {w : World} {c : Cn} {mg : Str → Option Value} {base : Heap} {k : Nat} {sp p_last_word : Sp} (T : Tx c mg) (D : DefAt c.K mg "doubled" s_doubled) (F_last_word : FnAt P w c.K mg base k "last_word" ["made"] p_last_word)
    (len : ∀ vs H Q E, sp vs H Q E → vs.length = 1)
    (hp : ∀ vs H Q E, sp vs H Q E → (t_doubled c p_last_word) { nx := fun _ H' => Q .non H', rt := Q } (start ["made", "word"] vs) H) : FnAt P w c.K mg base (k + 1) "doubled" ["made"] sp :=
  D.fn sc_doubled (fun _ _ _ _ _ _ us hl => match us, hl with | [_], _ => rfl) len (t_doubled c p_last_word) hp (fun f cdv A outer s H E hr => by
    exact (pss_cons (ps_set (i := 1) sc_doubled.nd rfl (Or.inl rfl) (pe_callF F_last_word hr rfl (pa_cons (pv 0 rfl (Or.inl rfl)) pa_nil))) (pss_cons (ps_if (PW.pt (pw_or (pt_cmpR op_isN1 (pv 1 rfl (Or.inl rfl)) pe_non (nomark _)) (pw_or1 (pt_cmpR op_ge (pe_ix ix_tup (pv 1 rfl (Or.inl rfl)) pe_int (fun _ _ => rfl)) (pe_gi T.i_FIRST_BID rfl) (nomark _))))) (pss_one (ps_ret pe_int)) pss_nil) (pss_one (ps_ret (pe_ix ix_tup (pv 1 rfl (Or.inl rfl)) pe_int (fun _ _ => rfl)))))))

abbrev s_may_stand : Stmt := top 19
theorem sc_may_stand : FnScope ["made", "seat", "call", "word"] ["made", "seat", "call"] (defScope s_may_stand) := ⟨rfl, rfl, rfl, by decide +kernel, rfl, by decide +kernel, by decide +kernel⟩
def t_may_stand (c : Cn) (p_last_word p_side_of : Sp) : TS :=
  (tSeq (tAsg (tCall p_last_word [] E0 (tCons (tVar 0) tNil)) (gName 3))
    (tSeq (tIfS (tOr (tTest (tOp rIsN (tVar 3) (tC .non))) (tTest (tOp rEq (tCall p_side_of [] E0 (tCons (tOp (rIxT c.K) (tVar 3) (tC (.int 0))) tNil)) (tCall p_side_of [] E0 (tCons (tVar 1) tNil))))) (tRet (tC (.bl false))) tNext)
    (tSeq (tIfS (tTest (tOp rEq (tVar 2) (tC (.int 1)))) (tRet (tOp rGeI (tOp (rIxT c.K) (tVar 3) (tC (.int 1))) (tC (.int 3)))) tNext)
    (tRet (tOp rEq (tOp (rIxT c.K) (tVar 3) (tC (.int 1))) (tC (.int 1)))))))
theorem d_may_stand {P : Program} {w : World} {c : Cn} {mg : Str → Option Value} {base : Heap} {k : Nat} {sp p_last_word p_side_of : Sp} (T : Tx c mg) (D : DefAt c.K mg "may_stand" s_may_stand) (F_last_word : FnAt P w c.K mg base k "last_word" ["made"] p_last_word) (F_side_of : FnAt P w c.K mg base k "side_of" ["seat"] p_side_of)
    (len : ∀ vs H Q E, sp vs H Q E → vs.length = 3)
    (hp : ∀ vs H Q E, sp vs H Q E → (t_may_stand c p_last_word p_side_of) { nx := fun _ H' => Q .non H', rt := Q } (start ["made", "seat", "call", "word"] vs) H) : FnAt P w c.K mg base (k + 1) "may_stand" ["made", "seat", "call"] sp :=
  D.fn sc_may_stand (fun _ _ _ _ _ _ us hl => match us, hl with | [_, _, _], _ => rfl) len (t_may_stand c p_last_word p_side_of) hp (fun f cdv A outer s H E hr => by
    exact (pss_cons (ps_set (i := 3) sc_may_stand.nd rfl (Or.inl rfl) (pe_callF F_last_word hr rfl (pa_cons (pv 0 rfl (Or.inl rfl)) pa_nil))) (pss_cons (ps_if (PW.pt (pw_or (pt_cmpR op_isN1 (pv 3 rfl (Or.inl rfl)) pe_non (nomark _)) (pw_or1 (pt_cmpR op_eq (pe_callF F_side_of hr rfl (pa_cons (pe_ix ix_tup (pv 3 rfl (Or.inl rfl)) pe_int (fun _ _ => rfl)) pa_nil)) (pe_callF F_side_of hr rfl (pa_cons (pv 1 rfl (Or.inl rfl)) pa_nil)) (nomark _))))) (pss_one (ps_ret pe_bl)) pss_nil) (pss_cons (ps_if (pt_cmpR op_eq (pv 2 rfl (Or.inl rfl)) (pe_gi T.i_DOUBLE rfl) (nomark _)) (pss_one (ps_ret (pe_cmpR op_ge (pe_ix ix_tup (pv 3 rfl (Or.inl rfl)) pe_int (fun _ _ => rfl)) (pe_gi T.i_FIRST_BID rfl) (nomark _)))) pss_nil) (pss_one (ps_ret (pe_cmpR op_eq (pe_ix ix_tup (pv 3 rfl (Or.inl rfl)) pe_int (fun _ _ => rfl)) (pe_gi T.i_DOUBLE rfl) (nomark _))))))))

abbrev s_is_legal : Stmt := top 20
theorem sc_is_legal : FnScope ["made", "seat", "call"] ["made", "seat", "call"] (defScope s_is_legal) := ⟨rfl, rfl, rfl, by decide +kernel, rfl, by decide +kernel, by decide +kernel⟩
def t_is_legal (c : Cn) (p_is_over p_last_bid p_may_stand : Sp) : TS :=
  (tSeq (tIfS (tB (tCall p_is_over [] E0 (tCons (tVar 0) tNil))) (tRet (tC (.bl false))) tNext)
    (tSeq (tIfS (tTest (tOp rEq (tVar 2) (tC (.int 0)))) (tRet (tC (.bl true))) tNext)
    (tSeq (tIfS (tTest (tOp rLtI (tVar 2) (tC (.int 3)))) (tRet (tCall p_may_stand [] E0 (tCons (tVar 0) (tCons (tVar 1) (tCons (tVar 2) tNil))))) tNext)
    (tRet (tOp rGtI (tOp rSubI (tVar 2) (tC (.int 3))) (tCall p_last_bid [] E0 (tCons (tVar 0) tNil)))))))
theorem d_is_legal {P : Program} {w : World} {c : Cn} {mg : Str → Option Value} {base : Heap} {k : Nat} {sp p_is_over p_last_bid p_may_stand : Sp} (T : Tx c mg) (D : DefAt c.K mg "is_legal" s_is_legal) (F_is_over : FnAt P w c.K mg base k "is_over" ["made"] p_is_over) (F_last_bid : FnAt P w c.K mg base k "last_bid" ["made"] p_last_bid) (F_may_stand : FnAt P w c.K mg base k "may_stand" ["made", "seat", "call"] p_may_stand)
    (len : ∀ vs H Q E, sp vs H Q E → vs.length = 3)
    (hp : ∀ vs H Q E, sp vs H Q E → (t_is_legal c p_is_over p_last_bid p_may_stand) { nx := fun _ H' => Q .non H', rt := Q } (start ["made", "seat", "call"] vs) H) : FnAt P w c.K mg base (k + 1) "is_legal" ["made", "seat", "call"] sp :=
  D.fn sc_is_legal (fun _ _ _ _ _ _ us hl => match us, hl with | [_, _, _], _ => rfl) len (t_is_legal c p_is_over p_last_bid p_may_stand) hp (fun f cdv A outer s H E hr => by
    exact (pss_cons (ps_if (pt_val (pe_callF F_is_over hr rfl (pa_cons (pv 0 rfl (Or.inl rfl)) pa_nil))) (pss_one (ps_ret pe_bl)) pss_nil) (pss_cons (ps_if (pt_cmpR op_eq (pv 2 rfl (Or.inl rfl)) (pe_gi T.i_PASS rfl) (nomark _)) (pss_one (ps_ret pe_bl)) pss_nil) (pss_cons (ps_if (pt_cmpR op_lt (pv 2 rfl (Or.inl rfl)) (pe_gi T.i_FIRST_BID rfl) (nomark _)) (pss_one (ps_ret (pe_callF F_may_stand hr rfl (pa_cons (pv 0 rfl (Or.inl rfl)) (pa_cons (pv 1 rfl (Or.inl rfl)) (pa_cons (pv 2 rfl (Or.inl rfl)) pa_nil)))))) pss_nil) (pss_one (ps_ret (pe_cmpR op_gt (pe_op op_sub (pv 2 rfl (Or.inl rfl)) (pe_gi T.i_FIRST_BID rfl)) (pe_callF F_last_bid hr rfl (pa_cons (pv 0 rfl (Or.inl rfl)) pa_nil)) (nomark _))))))))

abbrev s_first_to_name : Stmt := top 21
theorem sc_first_to_name : FnScope ["made", "side", "strain", "seat", "call"] ["made", "side", "strain"] (defScope s_first_to_name) := ⟨rfl, rfl, rfl, by decide +kernel, rfl, by decide +kernel, by decide +kernel⟩
def t_first_to_name (c : Cn) (p_side_of : Sp) : TS :=
  (tSeq (tFor (iList c.K (tVar 0)) (gTup c.K 2 (gCons (gName 3) (gCons (gName 4) gNil))) (tIfS (tAnd (tTest (tOp rGeI (tVar 4) (tC (.int 3)))) (tAnd (tTest (tOp rEq (tCall p_side_of [] E0 (tCons (tVar 3) tNil)) (tVar 1))) (tTest (tOp rEq (tOp rModI (tOp rSubI (tVar 4) (tC (.int 3))) (tC (.int 5))) (tVar 2))))) (tRet (tVar 3)) tNext))
    (tRet (tC .non)))
theorem d_first_to_name {P : Program} {w : World} {c : Cn} {mg : Str → Option Value} {base : Heap} {k : Nat} {sp p_side_of : Sp} (T : Tx c mg) (D : DefAt c.K mg "first_to_name" s_first_to_name) (F_side_of : FnAt P w c.K mg base k "side_of" ["seat"] p_side_of)
    (len : ∀ vs H Q E, sp vs H Q E → vs.length = 3)
    (hp : ∀ vs H Q E, sp vs H Q E → (t_first_to_name c p_side_of) { nx := fun _ H' => Q .non H', rt := Q } (start ["made", "side", "strain", "seat", "call"] vs) H) : FnAt P w c.K mg base (k + 1) "first_to_name" ["made", "side", "strain"] sp :=
  D.fn sc_first_to_name (fun _ _ _ _ _ _ us hl => match us, hl with | [_, _, _], _ => rfl) len (t_first_to_name c p_side_of) hp (fun f cdv A outer s H E hr => by
    exact (pss_cons (ps_for PassesOwn.never rfl (pi_list (pv 0 rfl (Or.inl rfl))) (pg_tup rfl (pgs_cons (pg_name (i := 3) sc_first_to_name.nd rfl (Or.inl rfl)) (pgs_cons (pg_name (i := 4) sc_first_to_name.nd rfl (Or.inl rfl)) pgs_nil))) (pss_one (ps_if (PW.pt (pw_and (pt_cmpR op_ge (pv 4 rfl (Or.inl rfl)) (pe_gi T.i_FIRST_BID rfl) (nomark _)) (pw_and (pt_cmpR op_eq (pe_callF F_side_of hr rfl (pa_cons (pv 3 rfl (Or.inl rfl)) pa_nil)) (pv 1 rfl (Or.inl rfl)) (nomark _)) (pw_and1 (pt_cmpR op_eq (pe_op op_mod (pe_op op_sub (pv 4 rfl (Or.inl rfl)) (pe_gi T.i_FIRST_BID rfl)) (pe_gi T.i_STRAINS rfl)) (pv 2 rfl (Or.inl rfl)) (nomark _)))))) (pss_one (ps_ret (pv 3 rfl (Or.inl rfl)))) pss_nil))) (pss_one (ps_ret pe_non))))

abbrev s_Table_init : Stmt := inClass (top 30) 0
theorem sc_Table_init : FnScope ["self", "dealer", "vulnerability"] ["self", "dealer", "vulnerability"] (defScope s_Table_init) := ⟨rfl, rfl, rfl, by decide +kernel, rfl, by decide +kernel, by decide +kernel⟩
def t_Table_init (c : Cn) : TS :=
  (tSeq (sFld c.K (tVar 0) (tVar 1) "dealer")
    (tSeq (sFld c.K (tVar 0) (tVar 2) "vulnerability")
    (tSeq (sFld c.K (tVar 0) (tLst tNil) "made")
    (tSeq (sFld c.K (tVar 0) (tLst (tCons (tC (.bl false)) (tCons (tC (.bl false)) (tCons (tC (.bl false)) (tCons (tC (.bl false)) tNil))))) "barred")
    (tSeq (sFld c.K (tVar 0) (tLst (tCons (tC (.bl false)) (tCons (tC (.bl false)) (tCons (tC (.bl false)) (tCons (tC (.bl false)) tNil))))) "once")
    (tSeq (sFld c.K (tVar 0) (tC .non) "waiting")
    (tSeq (sFld c.K (tVar 0) (tC .non) "mending")
    (sFld c.K (tVar 0) (tLst tNil) "past"))))))))
theorem d_Table_init {P : Program} {w : World} {c : Cn} {mg : Str → Option Value} {base : Heap} {k : Nat} {sp  : Sp} (T : Tx c mg) (D : InitAt c.K mg "Table" c.CT s_Table_init "Table.__init__") 
    (len : ∀ vs H Q E, sp vs H Q E → vs.length = 3)
    (hp : ∀ vs H Q E, sp vs H Q E → (t_Table_init c ) { nx := fun _ H' => Q .non H', rt := Q } (start ["self", "dealer", "vulnerability"] vs) H) : MkAt P w c.K mg base (k + 1) "Table" c.CT ["self", "dealer", "vulnerability"] sp :=
  D.fn sc_Table_init (fun _ _ _ _ _ _ us hl => match us, hl with | [_, _, _], _ => rfl) len (t_Table_init c ) hp (fun f cdv A outer s H E hr => by
    exact (pss_cons (ps_fld (pv 0 rfl (Or.inl rfl)) (pv 1 rfl (Or.inl rfl)) rfl) (pss_cons (ps_fld (pv 0 rfl (Or.inl rfl)) (pv 2 rfl (Or.inl rfl)) rfl) (pss_cons (ps_fld (pv 0 rfl (Or.inl rfl)) (pe_lst pa_nil) rfl) (pss_cons (ps_fld (pv 0 rfl (Or.inl rfl)) (pe_lst (pa_cons pe_bl (pa_cons pe_bl (pa_cons pe_bl (pa_cons pe_bl pa_nil))))) rfl) (pss_cons (ps_fld (pv 0 rfl (Or.inl rfl)) (pe_lst (pa_cons pe_bl (pa_cons pe_bl (pa_cons pe_bl (pa_cons pe_bl pa_nil))))) rfl) (pss_cons (ps_fld (pv 0 rfl (Or.inl rfl)) pe_non rfl) (pss_cons (ps_fld (pv 0 rfl (Or.inl rfl)) pe_non rfl) (pss_one (ps_fld (pv 0 rfl (Or.inl rfl)) (pe_lst pa_nil) rfl))))))))))

abbrev s_turn_of : Stmt := top 31
theorem sc_turn_of : FnScope ["table"] ["table"] (defScope s_turn_of) := ⟨rfl, rfl, rfl, by decide +kernel, rfl, by decide +kernel, by decide +kernel⟩
def t_turn_of (c : Cn) (p_seat_on_turn : Sp) : TS :=
  (tRet (tCall p_seat_on_turn [] E0 (tCons (tFld c.K (tVar 0) "dealer") (tCons (tFld c.K (tVar 0) "made") tNil))))
theorem d_turn_of {P : Program} {w : World} {c : Cn} {mg : Str → Option Value} {base : Heap} {k : Nat} {sp p_seat_on_turn : Sp} (T : Tx c mg) (D : DefAt c.K mg "turn_of" s_turn_of) (F_seat_on_turn : FnAt P w c.K mg base k "seat_on_turn" ["dealer", "made"] p_seat_on_turn)
    (len : ∀ vs H Q E, sp vs H Q E → vs.length = 1)
    (hp : ∀ vs H Q E, sp vs H Q E → (t_turn_of c p_seat_on_turn) { nx := fun _ H' => Q .non H', rt := Q } (start ["table"] vs) H) : FnAt P w c.K mg base (k + 1) "turn_of" ["table"] sp :=
  D.fn sc_turn_of (fun _ _ _ _ _ _ us hl => match us, hl with | [_], _ => rfl) len (t_turn_of c p_seat_on_turn) hp (fun f cdv A outer s H E hr => by
    exact (pss_one (ps_ret (pe_callF F_seat_on_turn hr rfl (pa_cons (pe_fld (pv 0 rfl (Or.inl rfl)) rfl) (pa_cons (pe_fld (pv 0 rfl (Or.inl rfl)) rfl) pa_nil))))))

abbrev s_must_pass : Stmt := top 32
theorem sc_must_pass : FnScope ["table", "seat"] ["table", "seat"] (defScope s_must_pass) := ⟨rfl, rfl, rfl, by decide +kernel, rfl, by decide +kernel, by decide +kernel⟩
def t_must_pass (c : Cn) : TS :=
  (tRet (tOrV (tOp (rIxL c.K) (tFld c.K (tVar 0) "barred") (tVar 1)) (tOp (rIxL c.K) (tFld c.K (tVar 0) "once") (tVar 1))))
theorem d_must_pass {P : Program} {w : World} {c : Cn} {mg : Str → Option Value} {base : Heap} {k : Nat} {sp  : Sp} (T : Tx c mg) (D : DefAt c.K mg "must_pass" s_must_pass) 
    (len : ∀ vs H Q E, sp vs H Q E → vs.length = 2)
    (hp : ∀ vs H Q E, sp vs H Q E → (t_must_pass c ) { nx := fun _ H' => Q .non H', rt := Q } (start ["table", "seat"] vs) H) : FnAt P w c.K mg base (k + 1) "must_pass" ["table", "seat"] sp :=
  D.fn sc_must_pass (fun _ _ _ _ _ _ us hl => match us, hl with | [_, _], _ => rfl) len (t_must_pass c ) hp (fun f cdv A outer s H E hr => by
    exact (pss_one (ps_ret (pe_or (pe_ix ix_list (pe_fld (pv 0 rfl (Or.inl rfl)) rfl) (pv 1 rfl (Or.inl rfl)) (fun _ _ => rfl)) (pe_one (pe_ix ix_list (pe_fld (pv 0 rfl (Or.inl rfl)) rfl) (pv 1 rfl (Or.inl rfl)) (fun _ _ => rfl)))))))

abbrev s_remember : Stmt := top 33
theorem sc_remember : FnScope ["table", "kept"] ["table"] (defScope s_remember) := ⟨rfl, rfl, rfl, by decide +kernel, rfl, by decide +kernel, by decide +kernel⟩
def t_remember (c : Cn) : TS :=
  (tSeq (tAsg (tTup (tCons (tCB (rLenS c.K) (tCons (tFld c.K (tVar 0) "made") tNil)) (tCons (tCB (rListS c.K) (tCons (tFld c.K (tVar 0) "barred") tNil)) (tCons (tCB (rListS c.K) (tCons (tFld c.K (tVar 0) "once") tNil)) (tCons (tFld c.K (tVar 0) "waiting") (tCons (tFld c.K (tVar 0) "mending") tNil)))))) (gName 1))
    (tDrop (tBM c.K "list" rAppend (tFld c.K (tVar 0) "past") (tCons (tVar 1) tNil))))
theorem d_remember {P : Program} {w : World} {c : Cn} {mg : Str → Option Value} {base : Heap} {k : Nat} {sp  : Sp} (T : Tx c mg) (D : DefAt c.K mg "remember" s_remember) 
    (len : ∀ vs H Q E, sp vs H Q E → vs.length = 1)
    (hp : ∀ vs H Q E, sp vs H Q E → (t_remember c ) { nx := fun _ H' => Q .non H', rt := Q } (start ["table", "kept"] vs) H) : FnAt P w c.K mg base (k + 1) "remember" ["table"] sp :=
  D.fn sc_remember (fun _ _ _ _ _ _ us hl => match us, hl with | [_], _ => rfl) len (t_remember c ) hp (fun f cdv A outer s H E hr => by
    exact (pss_cons (ps_set (i := 1) sc_remember.nd rfl (Or.inl rfl) (pe_tup (pa_cons (pe_callB call_len_seq rfl T.b_len (by decide +kernel) (pa_cons (pe_fld (pv 0 rfl (Or.inl rfl)) rfl) pa_nil)) (pa_cons (pe_callTy call_list_of rfl T.b_list (by decide +kernel) (pa_cons (pe_fld (pv 0 rfl (Or.inl rfl)) rfl) pa_nil)) (pa_cons (pe_callTy call_list_of rfl T.b_list (by decide +kernel) (pa_cons (pe_fld (pv 0 rfl (Or.inl rfl)) rfl) pa_nil)) (pa_cons (pe_fld (pv 0 rfl (Or.inl rfl)) rfl) (pa_cons (pe_fld (pv 0 rfl (Or.inl rfl)) rfl) pa_nil))))))) (pss_one (ps_expr (pe_bm PySem.F.plainAttrs_list PySem.F.slot_list_append PySem.F.type_list_append mt_append (pe_fld (pv 0 rfl (Or.inl rfl)) rfl) (pa_cons (pv 1 rfl (Or.inl rfl)) pa_nil))))))

abbrev s_go_back : Stmt := top 34
theorem sc_go_back : FnScope ["table", "count", "place", "made_count", "barred", "once", "waiting", "mending"] ["table", "count"] (defScope s_go_back) := ⟨rfl, rfl, rfl, by decide +kernel, rfl, by decide +kernel, by decide +kernel⟩
def t_go_back (c : Cn) : TS :=
  (tSeq (tIfS (tTest (tOp rEq (tVar 1) (tC (.int 0)))) tRetN tNext)
    (tSeq (tAsg (tOp rSubI (tCB (rLenS c.K) (tCons (tFld c.K (tVar 0) "past") tNil)) (tVar 1)) (gName 2))
    (tSeq (tAsg (tOp (rIxL c.K) (tFld c.K (tVar 0) "past") (tVar 2)) (gTup c.K 5 (gCons (gName 3) (gCons (gName 4) (gCons (gName 5) (gCons (gName 6) (gCons (gName 7) gNil)))))))
    (tSeq (sFld c.K (tVar 0) (tSl (rSlL c.K) (tFld c.K (tVar 0) "made") tNoPart (tPart (tVar 3))) "made")
    (tSeq (sFld c.K (tVar 0) (tCB (rListS c.K) (tCons (tVar 4) tNil)) "barred")
    (tSeq (sFld c.K (tVar 0) (tCB (rListS c.K) (tCons (tVar 5) tNil)) "once")
    (tSeq (sFld c.K (tVar 0) (tVar 6) "waiting")
    (tSeq (sFld c.K (tVar 0) (tVar 7) "mending")
    (sFld c.K (tVar 0) (tSl (rSlL c.K) (tFld c.K (tVar 0) "past") tNoPart (tPart (tVar 2))) "past")))))))))
theorem d_go_back {P : Program} {w : World} {c : Cn} {mg : Str → Option Value} {base : Heap} {k : Nat} {sp  : Sp} (T : Tx c mg) (D : DefAt c.K mg "go_back" s_go_back) 
    (len : ∀ vs H Q E, sp vs H Q E → vs.length = 2)
    (hp : ∀ vs H Q E, sp vs H Q E → (t_go_back c ) { nx := fun _ H' => Q .non H', rt := Q } (start ["table", "count", "place", "made_count", "barred", "once", "waiting", "mending"] vs) H) : FnAt P w c.K mg base (k + 1) "go_back" ["table", "count"] sp :=
  D.fn sc_go_back (fun _ _ _ _ _ _ us hl => match us, hl with | [_, _], _ => rfl) len (t_go_back c ) hp (fun f cdv A outer s H E hr => by
    exact (pss_cons (ps_if (pt_cmpR op_eq (pv 1 rfl (Or.inl rfl)) pe_int (nomark _)) (pss_one ps_retN) pss_nil) (pss_cons (ps_set (i := 2) sc_go_back.nd rfl (Or.inl rfl) (pe_op op_sub (pe_callB call_len_seq rfl T.b_len (by decide +kernel) (pa_cons (pe_fld (pv 0 rfl (Or.inl rfl)) rfl) pa_nil)) (pv 1 rfl (Or.inl rfl)))) (pss_cons (ps_asg (pe_ix ix_list (pe_fld (pv 0 rfl (Or.inl rfl)) rfl) (pv 2 rfl (Or.inl rfl)) (fun _ _ => rfl)) (pg_tup rfl (pgs_cons (pg_name (i := 3) sc_go_back.nd rfl (Or.inl rfl)) (pgs_cons (pg_name (i := 4) sc_go_back.nd rfl (Or.inl rfl)) (pgs_cons (pg_name (i := 5) sc_go_back.nd rfl (Or.inl rfl)) (pgs_cons (pg_name (i := 6) sc_go_back.nd rfl (Or.inl rfl)) (pgs_cons (pg_name (i := 7) sc_go_back.nd rfl (Or.inl rfl)) pgs_nil))))))) (pss_cons (ps_fld (pv 0 rfl (Or.inl rfl)) (pe_slice sl_list (pe_fld (pv 0 rfl (Or.inl rfl)) rfl) po_none (po_some (pv 3 rfl (Or.inl rfl)))) rfl) (pss_cons (ps_fld (pv 0 rfl (Or.inl rfl)) (pe_callTy call_list_of rfl T.b_list (by decide +kernel) (pa_cons (pv 4 rfl (Or.inl rfl)) pa_nil)) rfl) (pss_cons (ps_fld (pv 0 rfl (Or.inl rfl)) (pe_callTy call_list_of rfl T.b_list (by decide +kernel) (pa_cons (pv 5 rfl (Or.inl rfl)) pa_nil)) rfl) (pss_cons (ps_fld (pv 0 rfl (Or.inl rfl)) (pv 6 rfl (Or.inl rfl)) rfl) (pss_cons (ps_fld (pv 0 rfl (Or.inl rfl)) (pv 7 rfl (Or.inl rfl)) rfl) (pss_one (ps_fld (pv 0 rfl (Or.inl rfl)) (pe_slice sl_list (pe_fld (pv 0 rfl (Or.inl rfl)) rfl) po_none (po_some (pv 2 rfl (Or.inl rfl)))) rfl)))))))))))

abbrev s_let_stand : Stmt := top 35
theorem sc_let_stand : FnScope ["table", "seat", "call"] ["table", "seat", "call"] (defScope s_let_stand) := ⟨rfl, rfl, rfl, by decide +kernel, rfl, by decide +kernel, by decide +kernel⟩
def t_let_stand (c : Cn) : TS :=
  (tSeq (tDrop (tBM c.K "list" rAppend (tFld c.K (tVar 0) "made") (tCons (tTup (tCons (tVar 1) (tCons (tVar 2) tNil))) tNil)))
    (tSeq (tAsg (tC (.bl false)) (gSub (tFld c.K (tVar 0) "once") (tVar 1) rSetL))
    (tSeq (sFld c.K (tVar 0) (tC .non) "waiting")
    (sFld c.K (tVar 0) (tC .non) "mending"))))
theorem d_let_stand {P : Program} {w : World} {c : Cn} {mg : Str → Option Value} {base : Heap} {k : Nat} {sp  : Sp} (T : Tx c mg) (D : DefAt c.K mg "let_stand" s_let_stand) 
    (len : ∀ vs H Q E, sp vs H Q E → vs.length = 3)
    (hp : ∀ vs H Q E, sp vs H Q E → (t_let_stand c ) { nx := fun _ H' => Q .non H', rt := Q } (start ["table", "seat", "call"] vs) H) : FnAt P w c.K mg base (k + 1) "let_stand" ["table", "seat", "call"] sp :=
  D.fn sc_let_stand (fun _ _ _ _ _ _ us hl => match us, hl with | [_, _, _], _ => rfl) len (t_let_stand c ) hp (fun f cdv A outer s H E hr => by
    exact (pss_cons (ps_expr (pe_bm PySem.F.plainAttrs_list PySem.F.slot_list_append PySem.F.type_list_append mt_append (pe_fld (pv 0 rfl (Or.inl rfl)) rfl) (pa_cons (pe_tup (pa_cons (pv 1 rfl (Or.inl rfl)) (pa_cons (pv 2 rfl (Or.inl rfl)) pa_nil))) pa_nil))) (pss_cons (ps_asg pe_bl (pg_sub (pe_fld (pv 0 rfl (Or.inl rfl)) rfl) (pv 1 rfl (Or.inl rfl)) set_list)) (pss_cons (ps_fld (pv 0 rfl (Or.inl rfl)) pe_non rfl) (pss_one (ps_fld (pv 0 rfl (Or.inl rfl)) pe_non rfl))))))

abbrev s_bar_partner : Stmt := top 36
theorem sc_bar_partner : FnScope ["table", "seat"] ["table", "seat"] (defScope s_bar_partner) := ⟨rfl, rfl, rfl, by decide +kernel, rfl, by decide +kernel, by decide +kernel⟩
def t_bar_partner (c : Cn) (p_partner_of : Sp) : TS :=
  (tAsg (tC (.bl true)) (gSub (tFld c.K (tVar 0) "barred") (tCall p_partner_of [] E0 (tCons (tVar 1) tNil)) rSetL))
theorem d_bar_partner {P : Program} {w : World} {c : Cn} {mg : Str → Option Value} {base : Heap} {k : Nat} {sp p_partner_of : Sp} (T : Tx c mg) (D : DefAt c.K mg "bar_partner" s_bar_partner) (F_partner_of : FnAt P w c.K mg base k "partner_of" ["seat"] p_partner_of)
    (len : ∀ vs H Q E, sp vs H Q E → vs.length = 2)
    (hp : ∀ vs H Q E, sp vs H Q E → (t_bar_partner c p_partner_of) { nx := fun _ H' => Q .non H', rt := Q } (start ["table", "seat"] vs) H) : FnAt P w c.K mg base (k + 1) "bar_partner" ["table", "seat"] sp :=
  D.fn sc_bar_partner (fun _ _ _ _ _ _ us hl => match us, hl with | [_, _], _ => rfl) len (t_bar_partner c p_partner_of) hp (fun f cdv A outer s H E hr => by
    exact (pss_one (ps_asg pe_bl (pg_sub (pe_fld (pv 0 rfl (Or.inl rfl)) rfl) (pe_callF F_partner_of hr rfl (pa_cons (pv 1 rfl (Or.inl rfl)) pa_nil)) set_list))))

abbrev s_is_needed_to_mend : Stmt := top 37
theorem sc_is_needed_to_mend : FnScope ["table", "seat", "call"] ["table", "seat", "call"] (defScope s_is_needed_to_mend) := ⟨rfl, rfl, rfl, by decide +kernel, rfl, by decide +kernel, by decide +kernel⟩
def t_is_needed_to_mend (c : Cn) (p_is_legal p_turn_of : Sp) : TS :=
  (tSeq (tIfS (tOr (tTest (tOp rIsN (tFld c.K (tVar 0) "mending") (tC .non))) (tOr (tTest (tOp rNe (tVar 1) (tCall p_turn_of [] E0 (tCons (tVar 0) tNil)))) (tTest (tOp rEq (tVar 2) (tC (.int 0)))))) (tRet (tC (.bl true))) tNext)
    (tRet (tAndV (tOp rGeI (tVar 2) (tC (.int 3))) (tCall p_is_legal [] E0 (tCons (tFld c.K (tVar 0) "made") (tCons (tVar 1) (tCons (tVar 2) tNil)))))))
theorem d_is_needed_to_mend {P : Program} {w : World} {c : Cn} {mg : Str → Option Value} {base : Heap} {k : Nat} {sp p_is_legal p_turn_of : Sp} (T : Tx c mg) (D : DefAt c.K mg "is_needed_to_mend" s_is_needed_to_mend) (F_is_legal : FnAt P w c.K mg base k "is_legal" ["made", "seat", "call"] p_is_legal) (F_turn_of : FnAt P w c.K mg base k "turn_of" ["table"] p_turn_of)
    (len : ∀ vs H Q E, sp vs H Q E → vs.length = 3)
    (hp : ∀ vs H Q E, sp vs H Q E → (t_is_needed_to_mend c p_is_legal p_turn_of) { nx := fun _ H' => Q .non H', rt := Q } (start ["table", "seat", "call"] vs) H) : FnAt P w c.K mg base (k + 1) "is_needed_to_mend" ["table", "seat", "call"] sp :=
  D.fn sc_is_needed_to_mend (fun _ _ _ _ _ _ us hl => match us, hl with | [_, _, _], _ => rfl) len (t_is_needed_to_mend c p_is_legal p_turn_of) hp (fun f cdv A outer s H E hr => by
    exact (pss_cons (ps_if (PW.pt (pw_or (pt_cmpR op_isN1 (pe_fld (pv 0 rfl (Or.inl rfl)) rfl) pe_non (nomark _)) (pw_or (pt_cmpR op_ne (pv 1 rfl (Or.inl rfl)) (pe_callF F_turn_of hr rfl (pa_cons (pv 0 rfl (Or.inl rfl)) pa_nil)) (nomark _)) (pw_or1 (pt_cmpR op_eq (pv 2 rfl (Or.inl rfl)) pe_int (nomark _)))))) (pss_one (ps_ret pe_bl)) pss_nil) (pss_one (ps_ret (pe_and (pe_cmpR op_ge (pv 2 rfl (Or.inl rfl)) (pe_gi T.i_FIRST_BID rfl) (nomark _)) (pe_one (pe_callF F_is_legal hr rfl (pa_cons (pe_fld (pv 0 rfl (Or.inl rfl)) rfl) (pa_cons (pv 1 rfl (Or.inl rfl)) (pa_cons (pv 2 rfl (Or.inl rfl)) pa_nil))))))))))

abbrev s_make_call : Stmt := top 38
theorem sc_make_call : FnScope ["table", "seat", "call"] ["table", "seat", "call"] (defScope s_make_call) := ⟨rfl, rfl, rfl, by decide +kernel, rfl, by decide +kernel, by decide +kernel⟩
def t_make_call (c : Cn) (p_bar_partner p_is_legal p_let_stand p_may_stand p_mended_bid p_turn_of : Sp) : TS :=
  (tSeq (tIfS (tAnd (tTest (tChain rLtI rLtI (tC (.int 0)) (tVar 2) (tC (.int 3)))) (tNot (tB (tCall p_may_stand [] E0 (tCons (tFld c.K (tVar 0) "made") (tCons (tVar 1) (tCons (tVar 2) tNil))))))) (tSeq (tDrop (tCall p_bar_partner [] E0 (tCons (tVar 0) (tCons (tVar 1) tNil))))
    (tRet (tC (.int 3)))) tNext)
    (tSeq (tIfS (tTest (tOp rNe (tVar 1) (tCall p_turn_of [] E0 (tCons (tVar 0) tNil)))) (tSeq (sFld c.K (tVar 0) (tTup (tCons (tVar 1) (tCons (tVar 2) (tCons (tC (.int 2)) tNil)))) "waiting")
    (tRet (tC (.int 2)))) tNext)
    (tSeq (tIfS (tAnd (tTest (tOp rGeI (tVar 2) (tC (.int 3)))) (tNot (tB (tCall p_is_legal [] E0 (tCons (tFld c.K (tVar 0) "made") (tCons (tVar 1) (tCons (tVar 2) tNil))))))) (tSeq (sFld c.K (tVar 0) (tTup (tCons (tVar 1) (tCons (tVar 2) (tCons (tC (.int 1)) tNil)))) "waiting")
    (tRet (tC (.int 1)))) tNext)
    (tSeq (tIfS (tAnd (tTest (tOp rNotN (tFld c.K (tVar 0) "mending") (tC .non))) (tTest (tOp rNe (tOp rSubI (tVar 2) (tC (.int 3))) (tCall p_mended_bid [] E0 (tCons (tVar 0) tNil))))) (tDrop (tCall p_bar_partner [] E0 (tCons (tVar 0) (tCons (tVar 1) tNil)))) tNext)
    (tSeq (tDrop (tCall p_let_stand [] E0 (tCons (tVar 0) (tCons (tVar 1) (tCons (tVar 2) tNil)))))
    (tRet (tC (.int 0))))))))
theorem d_make_call {P : Program} {w : World} {c : Cn} {mg : Str → Option Value} {base : Heap} {k : Nat} {sp p_bar_partner p_is_legal p_let_stand p_may_stand p_mended_bid p_turn_of : Sp} (T : Tx c mg) (D : DefAt c.K mg "make_call" s_make_call) (F_bar_partner : FnAt P w c.K mg base k "bar_partner" ["table", "seat"] p_bar_partner) (F_is_legal : FnAt P w c.K mg base k "is_legal" ["made", "seat", "call"] p_is_legal) (F_let_stand : FnAt P w c.K mg base k "let_stand" ["table", "seat", "call"] p_let_stand) (F_may_stand : FnAt P w c.K mg base k "may_stand" ["made", "seat", "call"] p_may_stand) (F_mended_bid : FnAt P w c.K mg base k "mended_bid" ["table"] p_mended_bid) (F_turn_of : FnAt P w c.K mg base k "turn_of" ["table"] p_turn_of)
    (len : ∀ vs H Q E, sp vs H Q E → vs.length = 3)
    (hp : ∀ vs H Q E, sp vs H Q E → (t_make_call c p_bar_partner p_is_legal p_let_stand p_may_stand p_mended_bid p_turn_of) { nx := fun _ H' => Q .non H', rt := Q } (start ["table", "seat", "call"] vs) H) : FnAt P w c.K mg base (k + 1) "make_call" ["table", "seat", "call"] sp :=
  D.fn sc_make_call (fun _ _ _ _ _ _ us hl => match us, hl with | [_, _, _], _ => rfl) len (t_make_call c p_bar_partner p_is_legal p_let_stand p_may_stand p_mended_bid p_turn_of) hp (fun f cdv A outer s H E hr => by
    exact (pss_cons (ps_if (PW.pt (pw_and (pt_chain op_lt op_lt pe_int (pv 2 rfl (Or.inl rfl)) (pe_gi T.i_FIRST_BID rfl)) (pw_and1 (pt_not (pt_val (pe_callF F_may_stand hr rfl (pa_cons (pe_fld (pv 0 rfl (Or.inl rfl)) rfl) (pa_cons (pv 1 rfl (Or.inl rfl)) (pa_cons (pv 2 rfl (Or.inl rfl)) pa_nil))))))))) (pss_cons (ps_expr (pe_callF F_bar_partner hr rfl (pa_cons (pv 0 rfl (Or.inl rfl)) (pa_cons (pv 1 rfl (Or.inl rfl)) pa_nil)))) (pss_one (ps_ret (pe_gi T.i_WITHDRAWN_AT_ONCE rfl)))) pss_nil) (pss_cons (ps_if (pt_cmpR op_ne (pv 1 rfl (Or.inl rfl)) (pe_callF F_turn_of hr rfl (pa_cons (pv 0 rfl (Or.inl rfl)) pa_nil)) (nomark _)) (pss_cons (ps_fld (pv 0 rfl (Or.inl rfl)) (pe_tup (pa_cons (pv 1 rfl (Or.inl rfl)) (pa_cons (pv 2 rfl (Or.inl rfl)) (pa_cons (pe_gi T.i_OUT_OF_TURN rfl) pa_nil)))) rfl) (pss_one (ps_ret (pe_gi T.i_OUT_OF_TURN rfl)))) pss_nil) (pss_cons (ps_if (PW.pt (pw_and (pt_cmpR op_ge (pv 2 rfl (Or.inl rfl)) (pe_gi T.i_FIRST_BID rfl) (nomark _)) (pw_and1 (pt_not (pt_val (pe_callF F_is_legal hr rfl (pa_cons (pe_fld (pv 0 rfl (Or.inl rfl)) rfl) (pa_cons (pv 1 rfl (Or.inl rfl)) (pa_cons (pv 2 rfl (Or.inl rfl)) pa_nil))))))))) (pss_cons (ps_fld (pv 0 rfl (Or.inl rfl)) (pe_tup (pa_cons (pv 1 rfl (Or.inl rfl)) (pa_cons (pv 2 rfl (Or.inl rfl)) (pa_cons (pe_gi T.i_TOO_LOW rfl) pa_nil)))) rfl) (pss_one (ps_ret (pe_gi T.i_TOO_LOW rfl)))) pss_nil) (pss_cons (ps_if (PW.pt (pw_and (pt_cmpR op_notN1 (pe_fld (pv 0 rfl (Or.inl rfl)) rfl) pe_non (nomark _)) (pw_and1 (pt_cmpR op_ne (pe_op op_sub (pv 2 rfl (Or.inl rfl)) (pe_gi T.i_FIRST_BID rfl)) (pe_callF F_mended_bid hr rfl (pa_cons (pv 0 rfl (Or.inl rfl)) pa_nil)) (nomark _))))) (pss_one (ps_expr (pe_callF F_bar_partner hr rfl (pa_cons (pv 0 rfl (Or.inl rfl)) (pa_cons (pv 1 rfl (Or.inl rfl)) pa_nil))))) pss_nil) (pss_cons (ps_expr (pe_callF F_let_stand hr rfl (pa_cons (pv 0 rfl (Or.inl rfl)) (pa_cons (pv 1 rfl (Or.inl rfl)) (pa_cons (pv 2 rfl (Or.inl rfl)) pa_nil))))) (pss_one (ps_ret (pe_gi T.i_STANDS rfl)))))))))

abbrev s_mended_bid : Stmt := top 39
theorem sc_mended_bid : FnScope ["table", "bid"] ["table"] (defScope s_mended_bid) := ⟨rfl, rfl, rfl, by decide +kernel, rfl, by decide +kernel, by decide +kernel⟩
def t_mended_bid (c : Cn) (p_last_bid : Sp) : TS :=
  (tSeq (tAsg (tOp rAddI (tCall p_last_bid [] E0 (tCons (tFld c.K (tVar 0) "made") tNil)) (tC (.int 1))) (gName 1))
    (tSeq (tWhile (tTest (tOp rNe (tOp rModI (tVar 1) (tC (.int 5))) (tOp rModI (tOp (rIxT c.K) (tFld c.K (tVar 0) "mending") (tC (.int 1))) (tC (.int 5))))) (tAsg (tOp rAddI (tVar 1) (tC (.int 1))) (gName 1)))
    (tRet (tVar 1))))
theorem d_mended_bid {P : Program} {w : World} {c : Cn} {mg : Str → Option Value} {base : Heap} {k : Nat} {sp p_last_bid : Sp} (T : Tx c mg) (D : DefAt c.K mg "mended_bid" s_mended_bid) (F_last_bid : FnAt P w c.K mg base k "last_bid" ["made"] p_last_bid)
    (len : ∀ vs H Q E, sp vs H Q E → vs.length = 1)
    (hp : ∀ vs H Q E, sp vs H Q E → (t_mended_bid c p_last_bid) { nx := fun _ H' => Q .non H', rt := Q } (start ["table", "bid"] vs) H) : FnAt P w c.K mg base (k + 1) "mended_bid" ["table"] sp :=
  D.fn sc_mended_bid (fun _ _ _ _ _ _ us hl => match us, hl with | [_], _ => rfl) len (t_mended_bid c p_last_bid) hp (fun f cdv A outer s H E hr => by
    exact (pss_cons (ps_set (i := 1) sc_mended_bid.nd rfl (Or.inl rfl) (pe_op op_add (pe_callF F_last_bid hr rfl (pa_cons (pe_fld (pv 0 rfl (Or.inl rfl)) rfl) pa_nil)) pe_int)) (pss_cons (ps_while PassesOwn.never (pt_cmpR op_ne (pe_op op_mod (pv 1 rfl (Or.inl rfl)) (pe_gi T.i_STRAINS rfl)) (pe_op op_mod (pe_ix ix_tup (pe_fld (pv 0 rfl (Or.inl rfl)) rfl) pe_int (fun _ _ => rfl)) (pe_gi T.i_STRAINS rfl)) (nomark _)) (pss_one (ps_set (i := 1) sc_mended_bid.nd rfl (Or.inl rfl) (pe_op op_add (pv 1 rfl (Or.inl rfl)) pe_int)))) (pss_one (ps_ret (pv 1 rfl (Or.inl rfl)))))))

abbrev s_decide_waiting : Stmt := top 40
theorem sc_decide_waiting : FnScope ["table", "is_accepted", "seat", "call", "kind"] ["table", "is_accepted"] (defScope s_decide_waiting) := ⟨rfl, rfl, rfl, by decide +kernel, rfl, by decide +kernel, by decide +kernel⟩
def t_decide_waiting (c : Cn) (p_bar_partner p_let_stand : Sp) : TS :=
  (tSeq (tAsg (tFld c.K (tVar 0) "waiting") (gTup c.K 3 (gCons (gName 2) (gCons (gName 3) (gCons (gName 4) gNil)))))
    (tSeq (tIfS (tB (tVar 1)) (tSeq (tDrop (tCall p_let_stand [] E0 (tCons (tVar 0) (tCons (tVar 2) (tCons (tVar 3) tNil)))))
    (tRet (tC (.int 0)))) tNext)
    (tSeq (sFld c.K (tVar 0) (tC .non) "waiting")
    (tSeq (tIfS (tTest (tOp rEq (tVar 4) (tC (.int 1)))) (tSeq (sFld c.K (tVar 0) (tTup (tCons (tVar 2) (tCons (tOp rSubI (tVar 3) (tC (.int 3))) tNil))) "mending")
    (tRet (tC (.int 4)))) tNext)
    (tSeq (tIfS (tTest (tOp rEq (tVar 3) (tC (.int 0)))) (tSeq (tAsg (tC (.bl true)) (gSub (tFld c.K (tVar 0) "once") (tVar 2) rSetL))
    (tRet (tC (.int 5)))) tNext)
    (tSeq (tDrop (tCall p_bar_partner [] E0 (tCons (tVar 0) (tCons (tVar 2) tNil))))
    (tRet (tC (.int 6)))))))))
theorem d_decide_waiting {P : Program} {w : World} {c : Cn} {mg : Str → Option Value} {base : Heap} {k : Nat} {sp p_bar_partner p_let_stand : Sp} (T : Tx c mg) (D : DefAt c.K mg "decide_waiting" s_decide_waiting) (F_bar_partner : FnAt P w c.K mg base k "bar_partner" ["table", "seat"] p_bar_partner) (F_let_stand : FnAt P w c.K mg base k "let_stand" ["table", "seat", "call"] p_let_stand)
    (len : ∀ vs H Q E, sp vs H Q E → vs.length = 2)
    (hp : ∀ vs H Q E, sp vs H Q E → (t_decide_waiting c p_bar_partner p_let_stand) { nx := fun _ H' => Q .non H', rt := Q } (start ["table", "is_accepted", "seat", "call", "kind"] vs) H) : FnAt P w c.K mg base (k + 1) "decide_waiting" ["table", "is_accepted"] sp :=
  D.fn sc_decide_waiting (fun _ _ _ _ _ _ us hl => match us, hl with | [_, _], _ => rfl) len (t_decide_waiting c p_bar_partner p_let_stand) hp (fun f cdv A outer s H E hr => by
    exact (pss_cons (ps_asg (pe_fld (pv 0 rfl (Or.inl rfl)) rfl) (pg_tup rfl (pgs_cons (pg_name (i := 2) sc_decide_waiting.nd rfl (Or.inl rfl)) (pgs_cons (pg_name (i := 3) sc_decide_waiting.nd rfl (Or.inl rfl)) (pgs_cons (pg_name (i := 4) sc_decide_waiting.nd rfl (Or.inl rfl)) pgs_nil))))) (pss_cons (ps_if (pt_val (pv 1 rfl (Or.inl rfl))) (pss_cons (ps_expr (pe_callF F_let_stand hr rfl (pa_cons (pv 0 rfl (Or.inl rfl)) (pa_cons (pv 2 rfl (Or.inl rfl)) (pa_cons (pv 3 rfl (Or.inl rfl)) pa_nil))))) (pss_one (ps_ret (pe_gi T.i_STANDS rfl)))) pss_nil) (pss_cons (ps_fld (pv 0 rfl (Or.inl rfl)) pe_non rfl) (pss_cons (ps_if (pt_cmpR op_eq (pv 4 rfl (Or.inl rfl)) (pe_gi T.i_TOO_LOW rfl) (nomark _)) (pss_cons (ps_fld (pv 0 rfl (Or.inl rfl)) (pe_tup (pa_cons (pv 2 rfl (Or.inl rfl)) (pa_cons (pe_op op_sub (pv 3 rfl (Or.inl rfl)) (pe_gi T.i_FIRST_BID rfl)) pa_nil))) rfl) (pss_one (ps_ret (pe_gi T.i_BID_WITHDRAWN rfl)))) pss_nil) (pss_cons (ps_if (pt_cmpR op_eq (pv 3 rfl (Or.inl rfl)) pe_int (nomark _)) (pss_cons (ps_asg pe_bl (pg_sub (pe_fld (pv 0 rfl (Or.inl rfl)) rfl) (pv 2 rfl (Or.inl rfl)) set_list)) (pss_one (ps_ret (pe_gi T.i_PASS_WITHDRAWN rfl)))) pss_nil) (pss_cons (ps_expr (pe_callF F_bar_partner hr rfl (pa_cons (pv 0 rfl (Or.inl rfl)) (pa_cons (pv 2 rfl (Or.inl rfl)) pa_nil)))) (pss_one (ps_ret (pe_gi T.i_CALL_WITHDRAWN rfl))))))))))

abbrev s_text_of_call : Stmt := top 44
theorem sc_text_of_call : FnScope ["call", "bid"] ["call"] (defScope s_text_of_call) := ⟨rfl, rfl, rfl, by decide +kernel, rfl, by decide +kernel, by decide +kernel⟩
def t_text_of_call (c : Cn) : TS :=
  (tSeq (tIfS (tTest (tOp rLtI (tVar 0) (tC (.int 3)))) (tRet (tOp (rIxT c.K) (tTup (tCons (tC (.str "P")) (tCons (tC (.str "X")) (tCons (tC (.str "XX")) tNil)))) (tVar 0))) tNext)
    (tSeq (tAsg (tOp rSubI (tVar 0) (tC (.int 3))) (gName 1))
    (tRet (tOp rStrAdd (tCB rStrOf (tCons (tOp rAddI (tC (.int 1)) (tOp rDivI (tVar 1) (tC (.int 5)))) tNil)) (tOp rIxS (tC (.str "CDHSN")) (tOp rModI (tVar 1) (tC (.int 5))))))))
theorem d_text_of_call {P : Program} {w : World} {c : Cn} {mg : Str → Option Value} {base : Heap} {k : Nat} {sp  : Sp} (T : Tx c mg) (D : DefAt c.K mg "text_of_call" s_text_of_call) 
    (len : ∀ vs H Q E, sp vs H Q E → vs.length = 1)
    (hp : ∀ vs H Q E, sp vs H Q E → (t_text_of_call c ) { nx := fun _ H' => Q .non H', rt := Q } (start ["call", "bid"] vs) H) : FnAt P w c.K mg base (k + 1) "text_of_call" ["call"] sp :=
  D.fn sc_text_of_call (fun _ _ _ _ _ _ us hl => match us, hl with | [_], _ => rfl) len (t_text_of_call c ) hp (fun f cdv A outer s H E hr => by
    exact (pss_cons (ps_if (pt_cmpR op_lt (pv 0 rfl (Or.inl rfl)) (pe_gi T.i_FIRST_BID rfl) (nomark _)) (pss_one (ps_ret (pe_ix ix_tup (pe_tup (pa_cons pe_str (pa_cons pe_str (pa_cons pe_str pa_nil)))) (pv 0 rfl (Or.inl rfl)) (fun _ _ => rfl)))) pss_nil) (pss_cons (ps_set (i := 1) sc_text_of_call.nd rfl (Or.inl rfl) (pe_op op_sub (pv 0 rfl (Or.inl rfl)) (pe_gi T.i_FIRST_BID rfl))) (pss_one (ps_ret (pe_op op_add_str (pe_callTy call_str_int rfl T.b_str (by decide +kernel) (pa_cons (pe_op op_add pe_int (pe_op op_fdiv (pv 1 rfl (Or.inl rfl)) (pe_gi T.i_STRAINS rfl))) pa_nil)) (pe_ix ix_str (pe_gs T.s_LETTERS rfl) (pe_op op_mod (pv 1 rfl (Or.inl rfl)) (pe_gi T.i_STRAINS rfl)) (fun _ _ => rfl))))))))

abbrev s_bytes_of : Stmt := top 45
theorem sc_bytes_of : FnScope ["text", "sign"] ["text"] (defScope s_bytes_of) := ⟨rfl, rfl, rfl, by decide +kernel, rfl, by decide +kernel, by decide +kernel⟩
def t_bytes_of (c : Cn) : TS :=
  (tRet (tLc (iStr (tVar 0)) (gName 1) tYes (tCB rOrd (tCons (tVar 1) tNil)) (List.map (fun (q : Str × Nat) => q.2) [(("sign" : Str), 1)])))
theorem d_bytes_of {P : Program} {w : World} {c : Cn} {mg : Str → Option Value} {base : Heap} {k : Nat} {sp  : Sp} (T : Tx c mg) (D : DefAt c.K mg "bytes_of" s_bytes_of) 
    (len : ∀ vs H Q E, sp vs H Q E → vs.length = 1)
    (hp : ∀ vs H Q E, sp vs H Q E → (t_bytes_of c ) { nx := fun _ H' => Q .non H', rt := Q } (start ["text", "sign"] vs) H) : FnAt P w c.K mg base (k + 1) "bytes_of" ["text"] sp :=
  D.fn sc_bytes_of (fun _ _ _ _ _ _ us hl => match us, hl with | [_], _ => rfl) len (t_bytes_of c ) hp (fun f cdv A outer s H E hr => by
    exact (pss_one (ps_ret (pe_lc (own := [(("sign" : Str), 1)]) (g := (gName 1)) (tt := tYes) rfl sc_bytes_of.nd (pi_str (pv 0 rfl (Or.inl rfl))) (blkOk_by (N := ["text", "sign"]) (sc := defScope s_bytes_of) (by decide +kernel)) (fun _ _ _ _ _ => (pg_name (i := 1) sc_bytes_of.nd rfl (Or.inl rfl))) (fun _ _ _ _ _ => pts_nil) (fun _ _ _ _ _ => (pe_callB call_ord rfl T.b_ord (by decide +kernel) (pa_cons (pv 1 rfl (Or.inl rfl)) pa_nil)))))))

abbrev s_bytes_of_auction : Stmt := top 46
theorem sc_bytes_of_auction : FnScope ["calls", "call"] ["calls"] (defScope s_bytes_of_auction) := ⟨rfl, rfl, rfl, by decide +kernel, rfl, by decide +kernel, by decide +kernel⟩
def t_bytes_of_auction (c : Cn) (p_bytes_of p_text_of_call : Sp) : TS :=
  (tRet (tCall p_bytes_of [] E0 (tCons (tM1 (rJoin c.K) (tC (.str " ")) (tLc (iList c.K (tVar 0)) (gName 1) tYes (tCall p_text_of_call [] E0 (tCons (tVar 1) tNil)) (List.map (fun (q : Str × Nat) => q.2) [(("call" : Str), 1)]))) tNil)))
theorem d_bytes_of_auction {P : Program} {w : World} {c : Cn} {mg : Str → Option Value} {base : Heap} {k : Nat} {sp p_bytes_of p_text_of_call : Sp} (T : Tx c mg) (D : DefAt c.K mg "bytes_of_auction" s_bytes_of_auction) (F_bytes_of : FnAt P w c.K mg base k "bytes_of" ["text"] p_bytes_of) (F_text_of_call : FnAt P w c.K mg base k "text_of_call" ["call"] p_text_of_call)
    (len : ∀ vs H Q E, sp vs H Q E → vs.length = 1)
    (hp : ∀ vs H Q E, sp vs H Q E → (t_bytes_of_auction c p_bytes_of p_text_of_call) { nx := fun _ H' => Q .non H', rt := Q } (start ["calls", "call"] vs) H) : FnAt P w c.K mg base (k + 1) "bytes_of_auction" ["calls"] sp :=
  D.fn sc_bytes_of_auction (fun _ _ _ _ _ _ us hl => match us, hl with | [_], _ => rfl) len (t_bytes_of_auction c p_bytes_of p_text_of_call) hp (fun f cdv A outer s H E hr => by
    exact (pss_one (ps_ret (pe_callF F_bytes_of hr rfl (pa_cons (pe_join pe_str (pe_lc (own := [(("call" : Str), 1)]) (g := (gName 1)) (tt := tYes) rfl sc_bytes_of_auction.nd (pi_list (pv 0 rfl (Or.inl rfl))) (blkOk_by (N := ["calls", "call"]) (sc := defScope s_bytes_of_auction) (by decide +kernel)) (fun _ _ _ _ _ => (pg_name (i := 1) sc_bytes_of_auction.nd rfl (Or.inl rfl))) (fun _ _ _ _ _ => pts_nil) (fun _ _ _ _ _ => (pe_callF F_text_of_call hr rfl (pa_cons (pv 1 rfl (Or.inl rfl)) pa_nil))))) pa_nil)))))

abbrev s_words_of : Stmt := top 47
theorem sc_words_of : FnScope ["numbers", "words", "byte"] ["numbers"] (defScope s_words_of) := ⟨rfl, rfl, rfl, by decide +kernel, rfl, by decide +kernel, by decide +kernel⟩
def t_words_of (c : Cn) : TS :=
  (tSeq (tIfS (tTest (tOp (rEqD c.K) (tVar 0) (tLst tNil))) (tRet (tLst tNil)) tNext)
    (tSeq (tAsg (tLst (tCons (tLst tNil) tNil)) (gName 1))
    (tSeq (tFor (iList c.K (tVar 0)) (gName 2) (tIfS (tTest (tOp rEq (tVar 2) (tC (.int 32)))) (tDrop (tBM c.K "list" rAppend (tVar 1) (tCons (tLst tNil) tNil))) (tDrop (tBM c.K "list" rAppend (tOp (rIxL c.K) (tVar 1) (tUn rNegI (tC (.int 1)))) (tCons (tVar 2) tNil)))))
    (tRet (tVar 1)))))
theorem d_words_of {P : Program} {w : World} {c : Cn} {mg : Str → Option Value} {base : Heap} {k : Nat} {sp  : Sp} (T : Tx c mg) (D : DefAt c.K mg "words_of" s_words_of) 
    (len : ∀ vs H Q E, sp vs H Q E → vs.length = 1)
    (hp : ∀ vs H Q E, sp vs H Q E → (t_words_of c ) { nx := fun _ H' => Q .non H', rt := Q } (start ["numbers", "words", "byte"] vs) H) : FnAt P w c.K mg base (k + 1) "words_of" ["numbers"] sp :=
  D.fn sc_words_of (fun _ _ _ _ _ _ us hl => match us, hl with | [_], _ => rfl) len (t_words_of c ) hp (fun f cdv A outer s H E hr => by
    exact (pss_cons (ps_if (pt_cmpR (op_eqD hr.units) (pv 0 rfl (Or.inl rfl)) (pe_lst pa_nil) (nomark _)) (pss_one (ps_ret (pe_lst pa_nil))) pss_nil) (pss_cons (ps_set (i := 1) sc_words_of.nd rfl (Or.inl rfl) (pe_lst (pa_cons (pe_lst pa_nil) pa_nil))) (pss_cons (ps_for PassesOwn.never rfl (pi_list (pv 0 rfl (Or.inl rfl))) (pg_name (i := 2) sc_words_of.nd rfl (Or.inl rfl)) (pss_one (ps_if (pt_cmpR op_eq (pv 2 rfl (Or.inl rfl)) (pe_gi T.i_BLANK rfl) (nomark _)) (pss_one (ps_expr (pe_bm PySem.F.plainAttrs_list PySem.F.slot_list_append PySem.F.type_list_append mt_append (pv 1 rfl (Or.inl rfl)) (pa_cons (pe_lst pa_nil) pa_nil)))) (pss_one (ps_expr (pe_bm PySem.F.plainAttrs_list PySem.F.slot_list_append PySem.F.type_list_append mt_append (pe_ix ix_list (pv 1 rfl (Or.inl rfl)) (pe_un un_neg pe_int) (fun _ _ => rfl)) (pa_cons (pv 2 rfl (Or.inl rfl)) pa_nil))))))) (pss_one (ps_ret (pv 1 rfl (Or.inl rfl))))))))

abbrev s_call_of_word : Stmt := top 48
theorem sc_call_of_word : FnScope ["word", "call"] ["word"] (defScope s_call_of_word) := ⟨rfl, rfl, rfl, by decide +kernel, rfl, by decide +kernel, by decide +kernel⟩
def t_call_of_word (c : Cn) (p_bytes_of p_text_of_call : Sp) : TS :=
  (tSeq (tFor (iRng1 (tCons (tC (.int 38)) tNil)) (gName 1) (tIfS (tTest (tOp (rEqD c.K) (tCall p_bytes_of [] E0 (tCons (tCall p_text_of_call [] E0 (tCons (tVar 1) tNil)) tNil)) (tVar 0))) (tRet (tVar 1)) tNext))
    (tRet (tC .non)))
theorem d_call_of_word {P : Program} {w : World} {c : Cn} {mg : Str → Option Value} {base : Heap} {k : Nat} {sp p_bytes_of p_text_of_call : Sp} (T : Tx c mg) (D : DefAt c.K mg "call_of_word" s_call_of_word) (F_bytes_of : FnAt P w c.K mg base k "bytes_of" ["text"] p_bytes_of) (F_text_of_call : FnAt P w c.K mg base k "text_of_call" ["call"] p_text_of_call)
    (len : ∀ vs H Q E, sp vs H Q E → vs.length = 1)
    (hp : ∀ vs H Q E, sp vs H Q E → (t_call_of_word c p_bytes_of p_text_of_call) { nx := fun _ H' => Q .non H', rt := Q } (start ["word", "call"] vs) H) : FnAt P w c.K mg base (k + 1) "call_of_word" ["word"] sp :=
  D.fn sc_call_of_word (fun _ _ _ _ _ _ us hl => match us, hl with | [_], _ => rfl) len (t_call_of_word c p_bytes_of p_text_of_call) hp (fun f cdv A outer s H E hr => by
    exact (pss_cons (ps_for PassesOwn.never rfl (pi_range1 rfl T.b_range (pa_cons (pe_gi T.i_CALLS rfl) pa_nil)) (pg_name (i := 1) sc_call_of_word.nd rfl (Or.inl rfl)) (pss_one (ps_if (pt_cmpR (op_eqD hr.units) (pe_callF F_bytes_of hr rfl (pa_cons (pe_callF F_text_of_call hr rfl (pa_cons (pv 1 rfl (Or.inl rfl)) pa_nil)) pa_nil)) (pv 0 rfl (Or.inl rfl)) (nomark _)) (pss_one (ps_ret (pv 1 rfl (Or.inl rfl)))) pss_nil))) (pss_one (ps_ret pe_non))))

abbrev s_value_of_numeral : Stmt := top 49
theorem sc_value_of_numeral : FnScope ["numbers", "value", "byte"] ["numbers"] (defScope s_value_of_numeral) := ⟨rfl, rfl, rfl, by decide +kernel, rfl, by decide +kernel, by decide +kernel⟩
def t_value_of_numeral (c : Cn) : TS :=
  (tSeq (tAsg (tC (.int 0)) (gName 1))
    (tSeq (tFor (iList c.K (tVar 0)) (gName 2) (tSeq (tIfS (tNot (tTest (tChain rLeI rLeI (tC (.int 48)) (tVar 2) (tC (.int 57))))) (tRet (tC .non)) tNext)
    (tAsg (tOp rSubI (tOp rAddI (tOp rMulI (tC (.int 10)) (tVar 1)) (tVar 2)) (tC (.int 48))) (gName 1))))
    (tSeq (tIfS (tOr (tTest (tOp (rEqD c.K) (tVar 0) (tLst tNil))) (tAnd (tTest (tOp rGtI (tCB (rLenS c.K) (tCons (tVar 0) tNil)) (tC (.int 1)))) (tTest (tOp rEq (tOp (rIxL c.K) (tVar 0) (tC (.int 0))) (tC (.int 48)))))) (tRet (tC .non)) tNext)
    (tRet (tVar 1)))))
theorem d_value_of_numeral {P : Program} {w : World} {c : Cn} {mg : Str → Option Value} {base : Heap} {k : Nat} {sp  : Sp} (T : Tx c mg) (D : DefAt c.K mg "value_of_numeral" s_value_of_numeral) 
    (len : ∀ vs H Q E, sp vs H Q E → vs.length = 1)
    (hp : ∀ vs H Q E, sp vs H Q E → (t_value_of_numeral c ) { nx := fun _ H' => Q .non H', rt := Q } (start ["numbers", "value", "byte"] vs) H) : FnAt P w c.K mg base (k + 1) "value_of_numeral" ["numbers"] sp :=
  D.fn sc_value_of_numeral (fun _ _ _ _ _ _ us hl => match us, hl with | [_], _ => rfl) len (t_value_of_numeral c ) hp (fun f cdv A outer s H E hr => by
    exact (pss_cons (ps_set (i := 1) sc_value_of_numeral.nd rfl (Or.inl rfl) pe_int) (pss_cons (ps_for PassesOwn.never rfl (pi_list (pv 0 rfl (Or.inl rfl))) (pg_name (i := 2) sc_value_of_numeral.nd rfl (Or.inl rfl)) (pss_cons (ps_if (pt_not (pt_chain op_le op_le pe_int (pv 2 rfl (Or.inl rfl)) pe_int)) (pss_one (ps_ret pe_non)) pss_nil) (pss_one (ps_set (i := 1) sc_value_of_numeral.nd rfl (Or.inl rfl) (pe_op op_sub (pe_op op_add (pe_op op_mul pe_int (pv 1 rfl (Or.inl rfl))) (pv 2 rfl (Or.inl rfl))) pe_int))))) (pss_cons (ps_if (PW.pt (pw_or (pt_cmpR (op_eqD hr.units) (pv 0 rfl (Or.inl rfl)) (pe_lst pa_nil) (nomark _)) (pw_or1 (PW.pt (pw_and (pt_cmpR op_gt (pe_callB call_len_seq rfl T.b_len (by decide +kernel) (pa_cons (pv 0 rfl (Or.inl rfl)) pa_nil)) pe_int (nomark _)) (pw_and1 (pt_cmpR op_eq (pe_ix ix_list (pv 0 rfl (Or.inl rfl)) pe_int (fun _ _ => rfl)) pe_int (nomark _)))))))) (pss_one (ps_ret pe_non)) pss_nil) (pss_one (ps_ret (pv 1 rfl (Or.inl rfl))))))))

abbrev s_Session_init : Stmt := inClass (top 68) 0
theorem sc_Session_init : FnScope ["self"] ["self"] (defScope s_Session_init) := ⟨rfl, rfl, rfl, by decide +kernel, rfl, by decide +kernel, by decide +kernel⟩
def t_Session_init (c : Cn) : TS :=
  (sFld c.K (tVar 0) (tC .non) "table")
theorem d_Session_init {P : Program} {w : World} {c : Cn} {mg : Str → Option Value} {base : Heap} {k : Nat} {sp  : Sp} (T : Tx c mg) (D : InitAt c.K mg "Session" c.CS s_Session_init "Session.__init__") 
    (len : ∀ vs H Q E, sp vs H Q E → vs.length = 1)
    (hp : ∀ vs H Q E, sp vs H Q E → (t_Session_init c ) { nx := fun _ H' => Q .non H', rt := Q } (start ["self"] vs) H) : MkAt P w c.K mg base (k + 1) "Session" c.CS ["self"] sp :=
  D.fn sc_Session_init (fun _ _ _ _ _ _ us hl => match us, hl with | [_], _ => rfl) len (t_Session_init c ) hp (fun f cdv A outer s H E hr => by
    exact (pss_one (ps_fld (pv 0 rfl (Or.inl rfl)) pe_non rfl)))

abbrev s_are_bytes : Stmt := top 69
theorem sc_are_bytes : FnScope ["numbers", "number"] ["numbers"] (defScope s_are_bytes) := ⟨rfl, rfl, rfl, by decide +kernel, rfl, by decide +kernel, by decide +kernel⟩
def t_are_bytes (c : Cn) : TS :=
  (tRet (tCB (rAll c.K) (tCons (tLc (iList c.K (tVar 0)) (gName 1) tYes (tChain rLeI rLeI (tC (.int 0)) (tVar 1) (tC (.int 255))) (List.map (fun (q : Str × Nat) => q.2) [(("number" : Str), 1)])) tNil)))
theorem d_are_bytes {P : Program} {w : World} {c : Cn} {mg : Str → Option Value} {base : Heap} {k : Nat} {sp  : Sp} (T : Tx c mg) (D : DefAt c.K mg "are_bytes" s_are_bytes) 
    (len : ∀ vs H Q E, sp vs H Q E → vs.length = 1)
    (hp : ∀ vs H Q E, sp vs H Q E → (t_are_bytes c ) { nx := fun _ H' => Q .non H', rt := Q } (start ["numbers", "number"] vs) H) : FnAt P w c.K mg base (k + 1) "are_bytes" ["numbers"] sp :=
  D.fn sc_are_bytes (fun _ _ _ _ _ _ us hl => match us, hl with | [_], _ => rfl) len (t_are_bytes c ) hp (fun f cdv A outer s H E hr => by
    exact (pss_one (ps_ret (pe_callB (cr_all rfl) rfl T.b_all (by decide +kernel) (pa_cons (pe_lc (own := [(("number" : Str), 1)]) (g := (gName 1)) (tt := tYes) rfl sc_are_bytes.nd (pi_list (pv 0 rfl (Or.inl rfl))) (blkOk_by (N := ["numbers", "number"]) (sc := defScope s_are_bytes) (by decide +kernel)) (fun _ _ _ _ _ => (pg_name (i := 1) sc_are_bytes.nd rfl (Or.inl rfl))) (fun _ _ _ _ _ => pts_nil) (fun _ _ _ _ _ => (pe_chain op_le op_le pe_int (pv 1 rfl (Or.inl rfl)) pe_int))) pa_nil)))))

abbrev s_deal : Stmt := top 70
theorem sc_deal : FnScope ["session", "dealer", "vulnerability"] ["session", "dealer", "vulnerability"] (defScope s_deal) := ⟨rfl, rfl, rfl, by decide +kernel, rfl, by decide +kernel, by decide +kernel⟩
def t_deal (c : Cn) (q_Table : Sp) : TS :=
  (tSeq (tIfS (tOr (tNot (tTest (tChain rLeI rLeI (tC (.int 0)) (tVar 1) (tC (.int 3))))) (tNot (tTest (tChain rLeI rLeI (tC (.int 0)) (tVar 2) (tC (.int 3)))))) (tRet (tLst (tCons (tC (.int (-1))) tNil))) tNext)
    (tSeq (sFld c.K (tVar 0) (tMake c.CT q_Table [] E0 (tCons (tVar 1) (tCons (tVar 2) tNil))) "table")
    (tRet (tLst (tCons (tC (.int 0)) tNil)))))
theorem d_deal {P : Program} {w : World} {c : Cn} {mg : Str → Option Value} {base : Heap} {k : Nat} {sp q_Table : Sp} (T : Tx c mg) (D : DefAt c.K mg "deal" s_deal) (M_Table : MkAt P w c.K mg base k "Table" c.CT ["self", "dealer", "vulnerability"] q_Table)
    (len : ∀ vs H Q E, sp vs H Q E → vs.length = 3)
    (hp : ∀ vs H Q E, sp vs H Q E → (t_deal c q_Table) { nx := fun _ H' => Q .non H', rt := Q } (start ["session", "dealer", "vulnerability"] vs) H) : FnAt P w c.K mg base (k + 2) "deal" ["session", "dealer", "vulnerability"] sp :=
  D.fn sc_deal (fun _ _ _ _ _ _ us hl => match us, hl with | [_, _, _], _ => rfl) len (t_deal c q_Table) hp (fun f cdv A outer s H E hr => by
    exact (pss_cons (ps_if (PW.pt (pw_or (pt_not (pt_chain op_le op_le pe_int (pv 1 rfl (Or.inl rfl)) pe_int)) (pw_or1 (pt_not (pt_chain op_le op_le pe_int (pv 2 rfl (Or.inl rfl)) pe_int))))) (pss_one (ps_ret (pe_lst (pa_cons (pe_gi T.i_OUT_OF_RANGE rfl) pa_nil)))) pss_nil) (pss_cons (ps_fld (pv 0 rfl (Or.inl rfl)) (pe_makeF M_Table hr rfl (pa_cons (pv 1 rfl (Or.inl rfl)) (pa_cons (pv 2 rfl (Or.inl rfl)) pa_nil))) rfl) (pss_one (ps_ret (pe_lst (pa_cons pe_int pa_nil)))))))

abbrev s_board : Stmt := top 71
theorem sc_board : FnScope ["session", "number", "dealer", "vulnerability"] ["session", "number"] (defScope s_board) := ⟨rfl, rfl, rfl, by decide +kernel, rfl, by decide +kernel, by decide +kernel⟩
def t_board (c : Cn) (q_Table : Sp) : TS :=
  (tSeq (tIfS (tNot (tTest (tChain rLeI rLeI (tC (.int 1)) (tVar 1) (tC (.int 1000000000))))) (tRet (tLst (tCons (tC (.int (-1))) tNil))) tNext)
    (tSeq (tAsg (tOp rModI (tOp rAddI (tVar 1) (tC (.int 3))) (tC (.int 4))) (gName 2))
    (tSeq (tAsg (tOp rModI (tOp rAddI (tVar 2) (tOp rModI (tOp rDivI (tOp rAddI (tVar 1) (tC (.int 15))) (tC (.int 4))) (tC (.int 4)))) (tC (.int 4))) (gName 3))
    (tSeq (sFld c.K (tVar 0) (tMake c.CT q_Table [] E0 (tCons (tVar 2) (tCons (tVar 3) tNil))) "table")
    (tRet (tLst (tCons (tC (.int 0)) (tCons (tVar 2) (tCons (tVar 3) tNil)))))))))
theorem d_board {P : Program} {w : World} {c : Cn} {mg : Str → Option Value} {base : Heap} {k : Nat} {sp q_Table : Sp} (T : Tx c mg) (D : DefAt c.K mg "board" s_board) (M_Table : MkAt P w c.K mg base k "Table" c.CT ["self", "dealer", "vulnerability"] q_Table)
    (len : ∀ vs H Q E, sp vs H Q E → vs.length = 2)
    (hp : ∀ vs H Q E, sp vs H Q E → (t_board c q_Table) { nx := fun _ H' => Q .non H', rt := Q } (start ["session", "number", "dealer", "vulnerability"] vs) H) : FnAt P w c.K mg base (k + 2) "board" ["session", "number"] sp :=
  D.fn sc_board (fun _ _ _ _ _ _ us hl => match us, hl with | [_, _], _ => rfl) len (t_board c q_Table) hp (fun f cdv A outer s H E hr => by
    exact (pss_cons (ps_if (pt_not (pt_chain op_le op_le pe_int (pv 1 rfl (Or.inl rfl)) (pe_gi T.i_MOST_BOARD rfl))) (pss_one (ps_ret (pe_lst (pa_cons (pe_gi T.i_OUT_OF_RANGE rfl) pa_nil)))) pss_nil) (pss_cons (ps_set (i := 2) sc_board.nd rfl (Or.inl rfl) (pe_op op_mod (pe_op op_add (pv 1 rfl (Or.inl rfl)) pe_int) pe_int)) (pss_cons (ps_set (i := 3) sc_board.nd rfl (Or.inl rfl) (pe_op op_mod (pe_op op_add (pv 2 rfl (Or.inl rfl)) (pe_op op_mod (pe_op op_fdiv (pe_op op_add (pv 1 rfl (Or.inl rfl)) pe_int) pe_int) pe_int)) pe_int)) (pss_cons (ps_fld (pv 0 rfl (Or.inl rfl)) (pe_makeF M_Table hr rfl (pa_cons (pv 2 rfl (Or.inl rfl)) (pa_cons (pv 3 rfl (Or.inl rfl)) pa_nil))) rfl) (pss_one (ps_ret (pe_lst (pa_cons pe_int (pa_cons (pv 2 rfl (Or.inl rfl)) (pa_cons (pv 3 rfl (Or.inl rfl)) pa_nil)))))))))))

abbrev s_call_at_table : Stmt := top 72
theorem sc_call_at_table : FnScope ["session", "seat", "call", "table"] ["session", "seat", "call"] (defScope s_call_at_table) := ⟨rfl, rfl, rfl, by decide +kernel, rfl, by decide +kernel, by decide +kernel⟩
def t_call_at_table (c : Cn) (p_is_needed_to_mend p_is_over p_make_call p_must_pass p_remember : Sp) : TS :=
  (tSeq (tIfS (tOr (tNot (tTest (tChain rLeI rLeI (tC (.int 0)) (tVar 1) (tC (.int 3))))) (tNot (tTest (tChain rLeI rLtI (tC (.int 0)) (tVar 2) (tC (.int 38)))))) (tRet (tLst (tCons (tC (.int (-1))) tNil))) tNext)
    (tSeq (tAsg (tFld c.K (tVar 0) "table") (gName 3))
    (tSeq (tIfS (tTest (tOp rIsN (tVar 3) (tC .non))) (tRet (tLst (tCons (tC (.int (-3))) tNil))) tNext)
    (tSeq (tIfS (tB (tCall p_is_over [] E0 (tCons (tFld c.K (tVar 3) "made") tNil))) (tRet (tLst (tCons (tC (.int (-4))) tNil))) tNext)
    (tSeq (tIfS (tTest (tOp rNotN (tFld c.K (tVar 3) "waiting") (tC .non))) (tRet (tLst (tCons (tC (.int (-5))) tNil))) tNext)
    (tSeq (tIfS (tAnd (tTest (tOp rNe (tVar 2) (tC (.int 0)))) (tB (tCall p_must_pass [] E0 (tCons (tVar 3) (tCons (tVar 1) tNil))))) (tRet (tLst (tCons (tC (.int (-6))) tNil))) tNext)
    (tSeq (tIfS (tNot (tB (tCall p_is_needed_to_mend [] E0 (tCons (tVar 3) (tCons (tVar 1) (tCons (tVar 2) tNil)))))) (tRet (tLst (tCons (tC (.int (-8))) tNil))) tNext)
    (tSeq (tIfS (tTest (tOp rGeI (tCB (rLenS c.K) (tCons (tFld c.K (tVar 3) "past") tNil)) (tC (.int 320)))) (tRet (tLst (tCons (tC (.int (-9))) tNil))) tNext)
    (tSeq (tDrop (tCall p_remember [] E0 (tCons (tVar 3) tNil)))
    (tRet (tLst (tCons (tC (.int 0)) (tCons (tCall p_make_call [] E0 (tCons (tVar 3) (tCons (tVar 1) (tCons (tVar 2) tNil)))) tNil)))))))))))))
theorem d_call_at_table {P : Program} {w : World} {c : Cn} {mg : Str → Option Value} {base : Heap} {k : Nat} {sp p_is_needed_to_mend p_is_over p_make_call p_must_pass p_remember : Sp} (T : Tx c mg) (D : DefAt c.K mg "call_at_table" s_call_at_table) (F_is_needed_to_mend : FnAt P w c.K mg base k "is_needed_to_mend" ["table", "seat", "call"] p_is_needed_to_mend) (F_is_over : FnAt P w c.K mg base k "is_over" ["made"] p_is_over) (F_make_call : FnAt P w c.K mg base k "make_call" ["table", "seat", "call"] p_make_call) (F_must_pass : FnAt P w c.K mg base k "must_pass" ["table", "seat"] p_must_pass) (F_remember : FnAt P w c.K mg base k "remember" ["table"] p_remember)
    (len : ∀ vs H Q E, sp vs H Q E → vs.length = 3)
    (hp : ∀ vs H Q E, sp vs H Q E → (t_call_at_table c p_is_needed_to_mend p_is_over p_make_call p_must_pass p_remember) { nx := fun _ H' => Q .non H', rt := Q } (start ["session", "seat", "call", "table"] vs) H) : FnAt P w c.K mg base (k + 1) "call_at_table" ["session", "seat", "call"] sp :=
  D.fn sc_call_at_table (fun _ _ _ _ _ _ us hl => match us, hl with | [_, _, _], _ => rfl) len (t_call_at_table c p_is_needed_to_mend p_is_over p_make_call p_must_pass p_remember) hp (fun f cdv A outer s H E hr => by
    exact (pss_cons (ps_if (PW.pt (pw_or (pt_not (pt_chain op_le op_le pe_int (pv 1 rfl (Or.inl rfl)) pe_int)) (pw_or1 (pt_not (pt_chain op_le op_lt pe_int (pv 2 rfl (Or.inl rfl)) (pe_gi T.i_CALLS rfl)))))) (pss_one (ps_ret (pe_lst (pa_cons (pe_gi T.i_OUT_OF_RANGE rfl) pa_nil)))) pss_nil) (pss_cons (ps_set (i := 3) sc_call_at_table.nd rfl (Or.inl rfl) (pe_fld (pv 0 rfl (Or.inl rfl)) rfl)) (pss_cons (ps_if (pt_cmpR op_isN1 (pv 3 rfl (Or.inl rfl)) pe_non (nomark _)) (pss_one (ps_ret (pe_lst (pa_cons (pe_gi T.i_NO_AUCTION rfl) pa_nil)))) pss_nil) (pss_cons (ps_if (pt_val (pe_callF F_is_over hr rfl (pa_cons (pe_fld (pv 3 rfl (Or.inl rfl)) rfl) pa_nil))) (pss_one (ps_ret (pe_lst (pa_cons (pe_gi T.i_IS_OVER rfl) pa_nil)))) pss_nil) (pss_cons (ps_if (pt_cmpR op_notN1 (pe_fld (pv 3 rfl (Or.inl rfl)) rfl) pe_non (nomark _)) (pss_one (ps_ret (pe_lst (pa_cons (pe_gi T.i_WAITS rfl) pa_nil)))) pss_nil) (pss_cons (ps_if (PW.pt (pw_and (pt_cmpR op_ne (pv 2 rfl (Or.inl rfl)) pe_int (nomark _)) (pw_and1 (pt_val (pe_callF F_must_pass hr rfl (pa_cons (pv 3 rfl (Or.inl rfl)) (pa_cons (pv 1 rfl (Or.inl rfl)) pa_nil))))))) (pss_one (ps_ret (pe_lst (pa_cons (pe_gi T.i_MUST_PASS rfl) pa_nil)))) pss_nil) (pss_cons (ps_if (pt_not (pt_val (pe_callF F_is_needed_to_mend hr rfl (pa_cons (pv 3 rfl (Or.inl rfl)) (pa_cons (pv 1 rfl (Or.inl rfl)) (pa_cons (pv 2 rfl (Or.inl rfl)) pa_nil)))))) (pss_one (ps_ret (pe_lst (pa_cons (pe_gi T.i_MUST_MEND rfl) pa_nil)))) pss_nil) (pss_cons (ps_if (pt_cmpR op_ge (pe_callB call_len_seq rfl T.b_len (by decide +kernel) (pa_cons (pe_fld (pv 3 rfl (Or.inl rfl)) rfl) pa_nil)) (pe_gi T.i_MOST_DONE rfl) (nomark _)) (pss_one (ps_ret (pe_lst (pa_cons (pe_gi T.i_TOO_MANY_DONE rfl) pa_nil)))) pss_nil) (pss_cons (ps_expr (pe_callF F_remember hr rfl (pa_cons (pv 3 rfl (Or.inl rfl)) pa_nil))) (pss_one (ps_ret (pe_lst (pa_cons pe_int (pa_cons (pe_callF F_make_call hr rfl (pa_cons (pv 3 rfl (Or.inl rfl)) (pa_cons (pv 1 rfl (Or.inl rfl)) (pa_cons (pv 2 rfl (Or.inl rfl)) pa_nil)))) pa_nil)))))))))))))))

abbrev s_decide : Stmt := top 73
theorem sc_decide : FnScope ["session", "answer", "table"] ["session", "answer"] (defScope s_decide) := ⟨rfl, rfl, rfl, by decide +kernel, rfl, by decide +kernel, by decide +kernel⟩
def t_decide (c : Cn) (p_decide_waiting p_remember : Sp) : TS :=
  (tSeq (tIfS (tNot (tTest (tChain rLeI rLeI (tC (.int 0)) (tVar 1) (tC (.int 1))))) (tRet (tLst (tCons (tC (.int (-1))) tNil))) tNext)
    (tSeq (tAsg (tFld c.K (tVar 0) "table") (gName 2))
    (tSeq (tIfS (tTest (tOp rIsN (tVar 2) (tC .non))) (tRet (tLst (tCons (tC (.int (-3))) tNil))) tNext)
    (tSeq (tIfS (tTest (tOp rIsN (tFld c.K (tVar 2) "waiting") (tC .non))) (tRet (tLst (tCons (tC (.int (-7))) tNil))) tNext)
    (tSeq (tIfS (tTest (tOp rGeI (tCB (rLenS c.K) (tCons (tFld c.K (tVar 2) "past") tNil)) (tC (.int 320)))) (tRet (tLst (tCons (tC (.int (-9))) tNil))) tNext)
    (tSeq (tDrop (tCall p_remember [] E0 (tCons (tVar 2) tNil)))
    (tRet (tLst (tCons (tC (.int 0)) (tCons (tCall p_decide_waiting [] E0 (tCons (tVar 2) (tCons (tOp rEq (tVar 1) (tC (.int 1))) tNil))) tNil))))))))))
theorem d_decide {P : Program} {w : World} {c : Cn} {mg : Str → Option Value} {base : Heap} {k : Nat} {sp p_decide_waiting p_remember : Sp} (T : Tx c mg) (D : DefAt c.K mg "decide" s_decide) (F_decide_waiting : FnAt P w c.K mg base k "decide_waiting" ["table", "is_accepted"] p_decide_waiting) (F_remember : FnAt P w c.K mg base k "remember" ["table"] p_remember)
    (len : ∀ vs H Q E, sp vs H Q E → vs.length = 2)
    (hp : ∀ vs H Q E, sp vs H Q E → (t_decide c p_decide_waiting p_remember) { nx := fun _ H' => Q .non H', rt := Q } (start ["session", "answer", "table"] vs) H) : FnAt P w c.K mg base (k + 1) "decide" ["session", "answer"] sp :=
  D.fn sc_decide (fun _ _ _ _ _ _ us hl => match us, hl with | [_, _], _ => rfl) len (t_decide c p_decide_waiting p_remember) hp (fun f cdv A outer s H E hr => by
    exact (pss_cons (ps_if (pt_not (pt_chain op_le op_le pe_int (pv 1 rfl (Or.inl rfl)) pe_int)) (pss_one (ps_ret (pe_lst (pa_cons (pe_gi T.i_OUT_OF_RANGE rfl) pa_nil)))) pss_nil) (pss_cons (ps_set (i := 2) sc_decide.nd rfl (Or.inl rfl) (pe_fld (pv 0 rfl (Or.inl rfl)) rfl)) (pss_cons (ps_if (pt_cmpR op_isN1 (pv 2 rfl (Or.inl rfl)) pe_non (nomark _)) (pss_one (ps_ret (pe_lst (pa_cons (pe_gi T.i_NO_AUCTION rfl) pa_nil)))) pss_nil) (pss_cons (ps_if (pt_cmpR op_isN1 (pe_fld (pv 2 rfl (Or.inl rfl)) rfl) pe_non (nomark _)) (pss_one (ps_ret (pe_lst (pa_cons (pe_gi T.i_NOTHING_WAITS rfl) pa_nil)))) pss_nil) (pss_cons (ps_if (pt_cmpR op_ge (pe_callB call_len_seq rfl T.b_len (by decide +kernel) (pa_cons (pe_fld (pv 2 rfl (Or.inl rfl)) rfl) pa_nil)) (pe_gi T.i_MOST_DONE rfl) (nomark _)) (pss_one (ps_ret (pe_lst (pa_cons (pe_gi T.i_TOO_MANY_DONE rfl) pa_nil)))) pss_nil) (pss_cons (ps_expr (pe_callF F_remember hr rfl (pa_cons (pv 2 rfl (Or.inl rfl)) pa_nil))) (pss_one (ps_ret (pe_lst (pa_cons pe_int (pa_cons (pe_callF F_decide_waiting hr rfl (pa_cons (pv 2 rfl (Or.inl rfl)) (pa_cons (pe_cmpR op_eq (pv 1 rfl (Or.inl rfl)) pe_int (nomark _)) pa_nil))) pa_nil))))))))))))

abbrev s_undo : Stmt := top 74
theorem sc_undo : FnScope ["session", "count", "table"] ["session", "count"] (defScope s_undo) := ⟨rfl, rfl, rfl, by decide +kernel, rfl, by decide +kernel, by decide +kernel⟩
def t_undo (c : Cn) (p_go_back : Sp) : TS :=
  (tSeq (tIfS (tNot (tTest (tChain rLeI rLeI (tC (.int 0)) (tVar 1) (tC (.int 400))))) (tRet (tLst (tCons (tC (.int (-1))) tNil))) tNext)
    (tSeq (tAsg (tFld c.K (tVar 0) "table") (gName 2))
    (tSeq (tIfS (tTest (tOp rIsN (tVar 2) (tC .non))) (tRet (tLst (tCons (tC (.int (-3))) tNil))) tNext)
    (tSeq (tIfS (tTest (tOp rLtI (tCB (rLenS c.K) (tCons (tFld c.K (tVar 2) "past") tNil)) (tVar 1))) (tRet (tLst (tCons (tC (.int (-14))) tNil))) tNext)
    (tSeq (tDrop (tCall p_go_back [] E0 (tCons (tVar 2) (tCons (tVar 1) tNil))))
    (tRet (tLst (tCons (tC (.int 0)) tNil))))))))
theorem d_undo {P : Program} {w : World} {c : Cn} {mg : Str → Option Value} {base : Heap} {k : Nat} {sp p_go_back : Sp} (T : Tx c mg) (D : DefAt c.K mg "undo" s_undo) (F_go_back : FnAt P w c.K mg base k "go_back" ["table", "count"] p_go_back)
    (len : ∀ vs H Q E, sp vs H Q E → vs.length = 2)
    (hp : ∀ vs H Q E, sp vs H Q E → (t_undo c p_go_back) { nx := fun _ H' => Q .non H', rt := Q } (start ["session", "count", "table"] vs) H) : FnAt P w c.K mg base (k + 1) "undo" ["session", "count"] sp :=
  D.fn sc_undo (fun _ _ _ _ _ _ us hl => match us, hl with | [_, _], _ => rfl) len (t_undo c p_go_back) hp (fun f cdv A outer s H E hr => by
    exact (pss_cons (ps_if (pt_not (pt_chain op_le op_le pe_int (pv 1 rfl (Or.inl rfl)) (pe_gi T.i_MOST_UNDONE rfl))) (pss_one (ps_ret (pe_lst (pa_cons (pe_gi T.i_OUT_OF_RANGE rfl) pa_nil)))) pss_nil) (pss_cons (ps_set (i := 2) sc_undo.nd rfl (Or.inl rfl) (pe_fld (pv 0 rfl (Or.inl rfl)) rfl)) (pss_cons (ps_if (pt_cmpR op_isN1 (pv 2 rfl (Or.inl rfl)) pe_non (nomark _)) (pss_one (ps_ret (pe_lst (pa_cons (pe_gi T.i_NO_AUCTION rfl) pa_nil)))) pss_nil) (pss_cons (ps_if (pt_cmpR op_lt (pe_callB call_len_seq rfl T.b_len (by decide +kernel) (pa_cons (pe_fld (pv 2 rfl (Or.inl rfl)) rfl) pa_nil)) (pv 1 rfl (Or.inl rfl)) (nomark _)) (pss_one (ps_ret (pe_lst (pa_cons (pe_gi T.i_FEWER_DONE rfl) pa_nil)))) pss_nil) (pss_cons (ps_expr (pe_callF F_go_back hr rfl (pa_cons (pv 2 rfl (Or.inl rfl)) (pa_cons (pv 1 rfl (Or.inl rfl)) pa_nil)))) (pss_one (ps_ret (pe_lst (pa_cons pe_int pa_nil))))))))))

abbrev s_looked_at : Stmt := top 75
theorem sc_looked_at : FnScope ["dealer", "numbers", "made", "place", "word", "call", "seat"] ["dealer", "numbers"] (defScope s_looked_at) := ⟨rfl, rfl, rfl, by decide +kernel, rfl, by decide +kernel, by decide +kernel⟩
def t_looked_at (c : Cn) (p_call_of_word p_is_legal p_is_over p_seat_on_turn p_words_of : Sp) : TS :=
  (tSeq (tAsg (tLst tNil) (gName 2))
    (tSeq (tAsg (tC (.int 0)) (gName 3))
    (tSeq (tFor (iList c.K (tCall p_words_of [] E0 (tCons (tVar 1) tNil))) (gName 4) (tSeq (tAsg (tCall p_call_of_word [] E0 (tCons (tVar 4) tNil)) (gName 5))
    (tSeq (tIfS (tTest (tOp rIsN (tVar 5) (tC .non))) (tRet (tTup (tCons (tC (.int 1)) (tCons (tVar 3) (tCons (tVar 2) tNil))))) tNext)
    (tSeq (tIfS (tB (tCall p_is_over [] E0 (tCons (tVar 2) tNil))) (tRet (tTup (tCons (tC (.int 3)) (tCons (tVar 3) (tCons (tVar 2) tNil))))) tNext)
    (tSeq (tAsg (tCall p_seat_on_turn [] E0 (tCons (tVar 0) (tCons (tVar 2) tNil))) (gName 6))
    (tSeq (tIfS (tNot (tB (tCall p_is_legal [] E0 (tCons (tVar 2) (tCons (tVar 6) (tCons (tVar 5) tNil)))))) (tRet (tTup (tCons (tC (.int 2)) (tCons (tVar 3) (tCons (tVar 2) tNil))))) tNext)
    (tSeq (tDrop (tBM c.K "list" rAppend (tVar 2) (tCons (tTup (tCons (tVar 6) (tCons (tVar 5) tNil))) tNil)))
    (tAsg (tOp rAddI (tOp rAddI (tVar 3) (tCB (rLenS c.K) (tCons (tVar 4) tNil))) (tC (.int 1))) (gName 3)))))))))
    (tRet (tTup (tCons (tC (.int 0)) (tCons (tCB (rLenS c.K) (tCons (tVar 2) tNil)) (tCons (tVar 2) tNil))))))))
theorem d_looked_at {P : Program} {w : World} {c : Cn} {mg : Str → Option Value} {base : Heap} {k : Nat} {sp p_call_of_word p_is_legal p_is_over p_seat_on_turn p_words_of : Sp} (T : Tx c mg) (D : DefAt c.K mg "looked_at" s_looked_at) (F_call_of_word : FnAt P w c.K mg base k "call_of_word" ["word"] p_call_of_word) (F_is_legal : FnAt P w c.K mg base k "is_legal" ["made", "seat", "call"] p_is_legal) (F_is_over : FnAt P w c.K mg base k "is_over" ["made"] p_is_over) (F_seat_on_turn : FnAt P w c.K mg base k "seat_on_turn" ["dealer", "made"] p_seat_on_turn) (F_words_of : FnAt P w c.K mg base k "words_of" ["numbers"] p_words_of)
    (len : ∀ vs H Q E, sp vs H Q E → vs.length = 2)
    (hp : ∀ vs H Q E, sp vs H Q E → (t_looked_at c p_call_of_word p_is_legal p_is_over p_seat_on_turn p_words_of) { nx := fun _ H' => Q .non H', rt := Q } (start ["dealer", "numbers", "made", "place", "word", "call", "seat"] vs) H) : FnAt P w c.K mg base (k + 1) "looked_at" ["dealer", "numbers"] sp :=
  D.fn sc_looked_at (fun _ _ _ _ _ _ us hl => match us, hl with | [_, _], _ => rfl) len (t_looked_at c p_call_of_word p_is_legal p_is_over p_seat_on_turn p_words_of) hp (fun f cdv A outer s H E hr => by
    exact (pss_cons (ps_set (i := 2) sc_looked_at.nd rfl (Or.inl rfl) (pe_lst pa_nil)) (pss_cons (ps_set (i := 3) sc_looked_at.nd rfl (Or.inl rfl) pe_int) (pss_cons (ps_for PassesOwn.never rfl (pi_list (pe_callF F_words_of hr rfl (pa_cons (pv 1 rfl (Or.inl rfl)) pa_nil))) (pg_name (i := 4) sc_looked_at.nd rfl (Or.inl rfl)) (pss_cons (ps_set (i := 5) sc_looked_at.nd rfl (Or.inl rfl) (pe_callF F_call_of_word hr rfl (pa_cons (pv 4 rfl (Or.inl rfl)) pa_nil))) (pss_cons (ps_if (pt_cmpR op_isN1 (pv 5 rfl (Or.inl rfl)) pe_non (nomark _)) (pss_one (ps_ret (pe_tup (pa_cons (pe_gi T.i_NO_CALL rfl) (pa_cons (pv 3 rfl (Or.inl rfl)) (pa_cons (pv 2 rfl (Or.inl rfl)) pa_nil)))))) pss_nil) (pss_cons (ps_if (pt_val (pe_callF F_is_over hr rfl (pa_cons (pv 2 rfl (Or.inl rfl)) pa_nil))) (pss_one (ps_ret (pe_tup (pa_cons (pe_gi T.i_OVER_BEFORE rfl) (pa_cons (pv 3 rfl (Or.inl rfl)) (pa_cons (pv 2 rfl (Or.inl rfl)) pa_nil)))))) pss_nil) (pss_cons (ps_set (i := 6) sc_looked_at.nd rfl (Or.inl rfl) (pe_callF F_seat_on_turn hr rfl (pa_cons (pv 0 rfl (Or.inl rfl)) (pa_cons (pv 2 rfl (Or.inl rfl)) pa_nil)))) (pss_cons (ps_if (pt_not (pt_val (pe_callF F_is_legal hr rfl (pa_cons (pv 2 rfl (Or.inl rfl)) (pa_cons (pv 6 rfl (Or.inl rfl)) (pa_cons (pv 5 rfl (Or.inl rfl)) pa_nil)))))) (pss_one (ps_ret (pe_tup (pa_cons (pe_gi T.i_NOT_LEGAL rfl) (pa_cons (pv 3 rfl (Or.inl rfl)) (pa_cons (pv 2 rfl (Or.inl rfl)) pa_nil)))))) pss_nil) (pss_cons (ps_expr (pe_bm PySem.F.plainAttrs_list PySem.F.slot_list_append PySem.F.type_list_append mt_append (pv 2 rfl (Or.inl rfl)) (pa_cons (pe_tup (pa_cons (pv 6 rfl (Or.inl rfl)) (pa_cons (pv 5 rfl (Or.inl rfl)) pa_nil))) pa_nil))) (pss_one (ps_set (i := 3) sc_looked_at.nd rfl (Or.inl rfl) (pe_op op_add (pe_op op_add (pv 3 rfl (Or.inl rfl)) (pe_callB call_len_seq rfl T.b_len (by decide +kernel) (pa_cons (pv 4 rfl (Or.inl rfl)) pa_nil))) pe_int)))))))))) (pss_one (ps_ret (pe_tup (pa_cons (pe_gi T.i_NOTHING_WRONG rfl) (pa_cons (pe_callB call_len_seq rfl T.b_len (by decide +kernel) (pa_cons (pv 2 rfl (Or.inl rfl)) pa_nil)) (pa_cons (pv 2 rfl (Or.inl rfl)) pa_nil))))))))))

abbrev s_look : Stmt := top 76
theorem sc_look : FnScope ["dealer", "numbers", "kind", "place", "made"] ["dealer", "numbers"] (defScope s_look) := ⟨rfl, rfl, rfl, by decide +kernel, rfl, by decide +kernel, by decide +kernel⟩
def t_look (c : Cn) (p_are_bytes p_looked_at : Sp) : TS :=
  (tSeq (tIfS (tOr (tNot (tTest (tChain rLeI rLeI (tC (.int 0)) (tVar 0) (tC (.int 3))))) (tNot (tB (tCall p_are_bytes [] E0 (tCons (tVar 1) tNil))))) (tRet (tLst (tCons (tC (.int (-1))) tNil))) tNext)
    (tSeq (tAsg (tCall p_looked_at [] E0 (tCons (tVar 0) (tCons (tVar 1) tNil))) (gTup c.K 3 (gCons (gName 2) (gCons (gName 3) (gCons (gName 4) gNil)))))
    (tRet (tLst (tCons (tC (.int 0)) (tCons (tVar 2) (tCons (tVar 3) tNil)))))))
theorem d_look {P : Program} {w : World} {c : Cn} {mg : Str → Option Value} {base : Heap} {k : Nat} {sp p_are_bytes p_looked_at : Sp} (T : Tx c mg) (D : DefAt c.K mg "look" s_look) (F_are_bytes : FnAt P w c.K mg base k "are_bytes" ["numbers"] p_are_bytes) (F_looked_at : FnAt P w c.K mg base k "looked_at" ["dealer", "numbers"] p_looked_at)
    (len : ∀ vs H Q E, sp vs H Q E → vs.length = 2)
    (hp : ∀ vs H Q E, sp vs H Q E → (t_look c p_are_bytes p_looked_at) { nx := fun _ H' => Q .non H', rt := Q } (start ["dealer", "numbers", "kind", "place", "made"] vs) H) : FnAt P w c.K mg base (k + 1) "look" ["dealer", "numbers"] sp :=
  D.fn sc_look (fun _ _ _ _ _ _ us hl => match us, hl with | [_, _], _ => rfl) len (t_look c p_are_bytes p_looked_at) hp (fun f cdv A outer s H E hr => by
    exact (pss_cons (ps_if (PW.pt (pw_or (pt_not (pt_chain op_le op_le pe_int (pv 0 rfl (Or.inl rfl)) pe_int)) (pw_or1 (pt_not (pt_val (pe_callF F_are_bytes hr rfl (pa_cons (pv 1 rfl (Or.inl rfl)) pa_nil))))))) (pss_one (ps_ret (pe_lst (pa_cons (pe_gi T.i_OUT_OF_RANGE rfl) pa_nil)))) pss_nil) (pss_cons (ps_asg (pe_callF F_looked_at hr rfl (pa_cons (pv 0 rfl (Or.inl rfl)) (pa_cons (pv 1 rfl (Or.inl rfl)) pa_nil))) (pg_tup rfl (pgs_cons (pg_name (i := 2) sc_look.nd rfl (Or.inl rfl)) (pgs_cons (pg_name (i := 3) sc_look.nd rfl (Or.inl rfl)) (pgs_cons (pg_name (i := 4) sc_look.nd rfl (Or.inl rfl)) pgs_nil))))) (pss_one (ps_ret (pe_lst (pa_cons pe_int (pa_cons (pv 2 rfl (Or.inl rfl)) (pa_cons (pv 3 rfl (Or.inl rfl)) pa_nil)))))))))

abbrev s_read_auction : Stmt := top 77
theorem sc_read_auction : FnScope ["session", "dealer", "vulnerability", "numbers", "kind", "place", "made", "table", "seat", "call"] ["session", "dealer", "vulnerability", "numbers"] (defScope s_read_auction) := ⟨rfl, rfl, rfl, by decide +kernel, rfl, by decide +kernel, by decide +kernel⟩
def t_read_auction (c : Cn) (p_are_bytes p_let_stand p_looked_at p_remember q_Table : Sp) : TS :=
  (tSeq (tIfS (tOr (tNot (tTest (tChain rLeI rLeI (tC (.int 0)) (tVar 1) (tC (.int 3))))) (tOr (tNot (tTest (tChain rLeI rLeI (tC (.int 0)) (tVar 2) (tC (.int 3))))) (tNot (tB (tCall p_are_bytes [] E0 (tCons (tVar 3) tNil)))))) (tRet (tLst (tCons (tC (.int (-1))) tNil))) tNext)
    (tSeq (tAsg (tCall p_looked_at [] E0 (tCons (tVar 1) (tCons (tVar 3) tNil))) (gTup c.K 3 (gCons (gName 4) (gCons (gName 5) (gCons (gName 6) gNil)))))
    (tSeq (tIfS (tTest (tOp rNe (tVar 4) (tC (.int 0)))) (tRet (tLst (tCons (tC (.int (-12))) tNil))) tNext)
    (tSeq (tAsg (tMake c.CT q_Table [] E0 (tCons (tVar 1) (tCons (tVar 2) tNil))) (gName 7))
    (tSeq (tFor (iList c.K (tVar 6)) (gTup c.K 2 (gCons (gName 8) (gCons (gName 9) gNil))) (tSeq (tDrop (tCall p_remember [] E0 (tCons (tVar 7) tNil)))
    (tDrop (tCall p_let_stand [] E0 (tCons (tVar 7) (tCons (tVar 8) (tCons (tVar 9) tNil)))))))
    (tSeq (sFld c.K (tVar 0) (tVar 7) "table")
    (tRet (tLst (tCons (tC (.int 0)) (tCons (tCB (rLenS c.K) (tCons (tVar 6) tNil)) tNil))))))))))
theorem d_read_auction {P : Program} {w : World} {c : Cn} {mg : Str → Option Value} {base : Heap} {k : Nat} {sp p_are_bytes p_let_stand p_looked_at p_remember q_Table : Sp} (T : Tx c mg) (D : DefAt c.K mg "read_auction" s_read_auction) (F_are_bytes : FnAt P w c.K mg base (k + 1) "are_bytes" ["numbers"] p_are_bytes) (F_let_stand : FnAt P w c.K mg base (k + 1) "let_stand" ["table", "seat", "call"] p_let_stand) (F_looked_at : FnAt P w c.K mg base (k + 1) "looked_at" ["dealer", "numbers"] p_looked_at) (F_remember : FnAt P w c.K mg base (k + 1) "remember" ["table"] p_remember) (M_Table : MkAt P w c.K mg base k "Table" c.CT ["self", "dealer", "vulnerability"] q_Table)
    (len : ∀ vs H Q E, sp vs H Q E → vs.length = 4)
    (hp : ∀ vs H Q E, sp vs H Q E → (t_read_auction c p_are_bytes p_let_stand p_looked_at p_remember q_Table) { nx := fun _ H' => Q .non H', rt := Q } (start ["session", "dealer", "vulnerability", "numbers", "kind", "place", "made", "table", "seat", "call"] vs) H) : FnAt P w c.K mg base (k + 2) "read_auction" ["session", "dealer", "vulnerability", "numbers"] sp :=
  D.fn sc_read_auction (fun _ _ _ _ _ _ us hl => match us, hl with | [_, _, _, _], _ => rfl) len (t_read_auction c p_are_bytes p_let_stand p_looked_at p_remember q_Table) hp (fun f cdv A outer s H E hr => by
    exact (pss_cons (ps_if (PW.pt (pw_or (pt_not (pt_chain op_le op_le pe_int (pv 1 rfl (Or.inl rfl)) pe_int)) (pw_or (pt_not (pt_chain op_le op_le pe_int (pv 2 rfl (Or.inl rfl)) pe_int)) (pw_or1 (pt_not (pt_val (pe_callF F_are_bytes hr rfl (pa_cons (pv 3 rfl (Or.inl rfl)) pa_nil)))))))) (pss_one (ps_ret (pe_lst (pa_cons (pe_gi T.i_OUT_OF_RANGE rfl) pa_nil)))) pss_nil) (pss_cons (ps_asg (pe_callF F_looked_at hr rfl (pa_cons (pv 1 rfl (Or.inl rfl)) (pa_cons (pv 3 rfl (Or.inl rfl)) pa_nil))) (pg_tup rfl (pgs_cons (pg_name (i := 4) sc_read_auction.nd rfl (Or.inl rfl)) (pgs_cons (pg_name (i := 5) sc_read_auction.nd rfl (Or.inl rfl)) (pgs_cons (pg_name (i := 6) sc_read_auction.nd rfl (Or.inl rfl)) pgs_nil))))) (pss_cons (ps_if (pt_cmpR op_ne (pv 4 rfl (Or.inl rfl)) (pe_gi T.i_NOTHING_WRONG rfl) (nomark _)) (pss_one (ps_ret (pe_lst (pa_cons (pe_gi T.i_WRONG_TEXT rfl) pa_nil)))) pss_nil) (pss_cons (ps_set (i := 7) sc_read_auction.nd rfl (Or.inl rfl) (pe_makeF M_Table hr rfl (pa_cons (pv 1 rfl (Or.inl rfl)) (pa_cons (pv 2 rfl (Or.inl rfl)) pa_nil)))) (pss_cons (ps_for PassesOwn.never rfl (pi_list (pv 6 rfl (Or.inl rfl))) (pg_tup rfl (pgs_cons (pg_name (i := 8) sc_read_auction.nd rfl (Or.inl rfl)) (pgs_cons (pg_name (i := 9) sc_read_auction.nd rfl (Or.inl rfl)) pgs_nil))) (pss_cons (ps_expr (pe_callF F_remember hr rfl (pa_cons (pv 7 rfl (Or.inl rfl)) pa_nil))) (pss_one (ps_expr (pe_callF F_let_stand hr rfl (pa_cons (pv 7 rfl (Or.inl rfl)) (pa_cons (pv 8 rfl (Or.inl rfl)) (pa_cons (pv 9 rfl (Or.inl rfl)) pa_nil)))))))) (pss_cons (ps_fld (pv 0 rfl (Or.inl rfl)) (pv 7 rfl (Or.inl rfl)) rfl) (pss_one (ps_ret (pe_lst (pa_cons pe_int (pa_cons (pe_callB call_len_seq rfl T.b_len (by decide +kernel) (pa_cons (pv 6 rfl (Or.inl rfl)) pa_nil)) pa_nil))))))))))))

abbrev s_Position_init : Stmt := inClass (top 79) 0
theorem sc_Position_init : FnScope ["self", "bid", "doubled_number", "passes", "by_other"] ["self", "bid", "doubled_number", "passes", "by_other"] (defScope s_Position_init) := ⟨rfl, rfl, rfl, by decide +kernel, rfl, by decide +kernel, by decide +kernel⟩
def t_Position_init (c : Cn) : TS :=
  (tSeq (sFld c.K (tVar 0) (tVar 1) "bid")
    (tSeq (sFld c.K (tVar 0) (tVar 2) "doubled_number")
    (tSeq (sFld c.K (tVar 0) (tVar 3) "passes")
    (sFld c.K (tVar 0) (tVar 4) "by_other"))))
theorem d_Position_init {P : Program} {w : World} {c : Cn} {mg : Str → Option Value} {base : Heap} {k : Nat} {sp  : Sp} (T : Tx c mg) (D : InitAt c.K mg "Position" c.CP s_Position_init "Position.__init__") 
    (len : ∀ vs H Q E, sp vs H Q E → vs.length = 5)
    (hp : ∀ vs H Q E, sp vs H Q E → (t_Position_init c ) { nx := fun _ H' => Q .non H', rt := Q } (start ["self", "bid", "doubled_number", "passes", "by_other"] vs) H) : MkAt P w c.K mg base (k + 1) "Position" c.CP ["self", "bid", "doubled_number", "passes", "by_other"] sp :=
  D.fn sc_Position_init (fun _ _ _ _ _ _ us hl => match us, hl with | [_, _, _, _, _], _ => rfl) len (t_Position_init c ) hp (fun f cdv A outer s H E hr => by
    exact (pss_cons (ps_fld (pv 0 rfl (Or.inl rfl)) (pv 1 rfl (Or.inl rfl)) rfl) (pss_cons (ps_fld (pv 0 rfl (Or.inl rfl)) (pv 2 rfl (Or.inl rfl)) rfl) (pss_cons (ps_fld (pv 0 rfl (Or.inl rfl)) (pv 3 rfl (Or.inl rfl)) rfl) (pss_one (ps_fld (pv 0 rfl (Or.inl rfl)) (pv 4 rfl (Or.inl rfl)) rfl))))))

abbrev s_first_position : Stmt := top 80
theorem sc_first_position : FnScope [] [] (defScope s_first_position) := ⟨rfl, rfl, rfl, by decide +kernel, rfl, by decide +kernel, by decide +kernel⟩
def t_first_position (c : Cn) (q_Position : Sp) : TS :=
  (tRet (tMake c.CP q_Position [] E0 (tCons (tC (.int (-1))) (tCons (tC (.int 0)) (tCons (tC (.int 0)) (tCons (tC (.bl false)) tNil))))))
theorem d_first_position {P : Program} {w : World} {c : Cn} {mg : Str → Option Value} {base : Heap} {k : Nat} {sp q_Position : Sp} (T : Tx c mg) (D : DefAt c.K mg "first_position" s_first_position) (M_Position : MkAt P w c.K mg base k "Position" c.CP ["self", "bid", "doubled_number", "passes", "by_other"] q_Position)
    (len : ∀ vs H Q E, sp vs H Q E → vs.length = 0)
    (hp : ∀ vs H Q E, sp vs H Q E → (t_first_position c q_Position) { nx := fun _ H' => Q .non H', rt := Q } (start [] vs) H) : FnAt P w c.K mg base (k + 2) "first_position" [] sp :=
  D.fn sc_first_position (fun _ _ _ _ _ _ us hl => match us, hl with | [], _ => rfl) len (t_first_position c q_Position) hp (fun f cdv A outer s H E hr => by
    exact (pss_one (ps_ret (pe_makeF M_Position hr rfl (pa_cons (pe_gi T.i_NO_BID rfl) (pa_cons pe_int (pa_cons pe_int (pa_cons pe_bl pa_nil))))))))

abbrev s_position_of : Stmt := top 81
theorem sc_position_of : FnScope ["dealer", "made", "word", "by_other"] ["dealer", "made"] (defScope s_position_of) := ⟨rfl, rfl, rfl, by decide +kernel, rfl, by decide +kernel, by decide +kernel⟩
def t_position_of (c : Cn) (p_doubled p_last_bid p_last_word p_passes_at_end p_seat_on_turn p_side_of q_Position : Sp) : TS :=
  (tSeq (tAsg (tCall p_last_word [] E0 (tCons (tVar 1) tNil)) (gName 2))
    (tSeq (tAsg (tAndV (tOp rNotN (tVar 2) (tC .non)) (tOp rNe (tCall p_side_of [] E0 (tCons (tOp (rIxT c.K) (tVar 2) (tC (.int 0))) tNil)) (tCall p_side_of [] E0 (tCons (tCall p_seat_on_turn [] E0 (tCons (tVar 0) (tCons (tVar 1) tNil))) tNil)))) (gName 3))
    (tRet (tMake c.CP q_Position [] E0 (tCons (tCall p_last_bid [] E0 (tCons (tVar 1) tNil)) (tCons (tCall p_doubled [] E0 (tCons (tVar 1) tNil)) (tCons (tCall p_passes_at_end [] E0 (tCons (tVar 1) tNil)) (tCons (tVar 3) tNil))))))))
theorem d_position_of {P : Program} {w : World} {c : Cn} {mg : Str → Option Value} {base : Heap} {k : Nat} {sp p_doubled p_last_bid p_last_word p_passes_at_end p_seat_on_turn p_side_of q_Position : Sp} (T : Tx c mg) (D : DefAt c.K mg "position_of" s_position_of) (F_doubled : FnAt P w c.K mg base (k + 1) "doubled" ["made"] p_doubled) (F_last_bid : FnAt P w c.K mg base (k + 1) "last_bid" ["made"] p_last_bid) (F_last_word : FnAt P w c.K mg base (k + 1) "last_word" ["made"] p_last_word) (F_passes_at_end : FnAt P w c.K mg base (k + 1) "passes_at_end" ["made"] p_passes_at_end) (F_seat_on_turn : FnAt P w c.K mg base (k + 1) "seat_on_turn" ["dealer", "made"] p_seat_on_turn) (F_side_of : FnAt P w c.K mg base (k + 1) "side_of" ["seat"] p_side_of) (M_Position : MkAt P w c.K mg base k "Position" c.CP ["self", "bid", "doubled_number", "passes", "by_other"] q_Position)
    (len : ∀ vs H Q E, sp vs H Q E → vs.length = 2)
    (hp : ∀ vs H Q E, sp vs H Q E → (t_position_of c p_doubled p_last_bid p_last_word p_passes_at_end p_seat_on_turn p_side_of q_Position) { nx := fun _ H' => Q .non H', rt := Q } (start ["dealer", "made", "word", "by_other"] vs) H) : FnAt P w c.K mg base (k + 2) "position_of" ["dealer", "made"] sp :=
  D.fn sc_position_of (fun _ _ _ _ _ _ us hl => match us, hl with | [_, _], _ => rfl) len (t_position_of c p_doubled p_last_bid p_last_word p_passes_at_end p_seat_on_turn p_side_of q_Position) hp (fun f cdv A outer s H E hr => by
    exact (pss_cons (ps_set (i := 2) sc_position_of.nd rfl (Or.inl rfl) (pe_callF F_last_word hr rfl (pa_cons (pv 1 rfl (Or.inl rfl)) pa_nil))) (pss_cons (ps_set (i := 3) sc_position_of.nd rfl (Or.inl rfl) (pe_and (pe_cmpR op_notN1 (pv 2 rfl (Or.inl rfl)) pe_non (nomark _)) (pe_one (pe_cmpR op_ne (pe_callF F_side_of hr rfl (pa_cons (pe_ix ix_tup (pv 2 rfl (Or.inl rfl)) pe_int (fun _ _ => rfl)) pa_nil)) (pe_callF F_side_of hr rfl (pa_cons (pe_callF F_seat_on_turn hr rfl (pa_cons (pv 0 rfl (Or.inl rfl)) (pa_cons (pv 1 rfl (Or.inl rfl)) pa_nil))) pa_nil)) (nomark _))))) (pss_one (ps_ret (pe_makeF M_Position hr rfl (pa_cons (pe_callF F_last_bid hr rfl (pa_cons (pv 1 rfl (Or.inl rfl)) pa_nil)) (pa_cons (pe_callF F_doubled hr rfl (pa_cons (pv 1 rfl (Or.inl rfl)) pa_nil)) (pa_cons (pe_callF F_passes_at_end hr rfl (pa_cons (pv 1 rfl (Or.inl rfl)) pa_nil)) (pa_cons (pv 3 rfl (Or.inl rfl)) pa_nil))))))))))

abbrev s_is_at_end : Stmt := top 82
theorem sc_is_at_end : FnScope ["position"] ["position"] (defScope s_is_at_end) := ⟨rfl, rfl, rfl, by decide +kernel, rfl, by decide +kernel, by decide +kernel⟩
def t_is_at_end (c : Cn) (p_passes_to_end : Sp) : TS :=
  (tRet (tOp rGeI (tFld c.K (tVar 0) "passes") (tCall p_passes_to_end [] E0 (tCons (tFld c.K (tVar 0) "bid") tNil))))
theorem d_is_at_end {P : Program} {w : World} {c : Cn} {mg : Str → Option Value} {base : Heap} {k : Nat} {sp p_passes_to_end : Sp} (T : Tx c mg) (D : DefAt c.K mg "is_at_end" s_is_at_end) (F_passes_to_end : FnAt P w c.K mg base k "passes_to_end" ["bid"] p_passes_to_end)
    (len : ∀ vs H Q E, sp vs H Q E → vs.length = 1)
    (hp : ∀ vs H Q E, sp vs H Q E → (t_is_at_end c p_passes_to_end) { nx := fun _ H' => Q .non H', rt := Q } (start ["position"] vs) H) : FnAt P w c.K mg base (k + 1) "is_at_end" ["position"] sp :=
  D.fn sc_is_at_end (fun _ _ _ _ _ _ us hl => match us, hl with | [_], _ => rfl) len (t_is_at_end c p_passes_to_end) hp (fun f cdv A outer s H E hr => by
    exact (pss_one (ps_ret (pe_cmpR op_ge (pe_fld (pv 0 rfl (Or.inl rfl)) rfl) (pe_callF F_passes_to_end hr rfl (pa_cons (pe_fld (pv 0 rfl (Or.inl rfl)) rfl) pa_nil)) (nomark _)))))

abbrev s_legal_calls : Stmt := top 83
theorem sc_legal_calls : FnScope ["position", "calls", "bid"] ["position"] (defScope s_legal_calls) := ⟨rfl, rfl, rfl, by decide +kernel, rfl, by decide +kernel, by decide +kernel⟩
def t_legal_calls (c : Cn) : TS :=
  (tSeq (tAsg (tLst (tCons (tC (.int 0)) tNil)) (gName 1))
    (tSeq (tIfS (tAnd (tTest (tOp rNe (tFld c.K (tVar 0) "bid") (tC (.int (-1))))) (tB (tFld c.K (tVar 0) "by_other"))) (tIfS (tTest (tOp rEq (tFld c.K (tVar 0) "doubled_number") (tC (.int 0)))) (tDrop (tBM c.K "list" rAppend (tVar 1) (tCons (tC (.int 1)) tNil))) (tIfS (tTest (tOp rEq (tFld c.K (tVar 0) "doubled_number") (tC (.int 1)))) (tDrop (tBM c.K "list" rAppend (tVar 1) (tCons (tC (.int 2)) tNil))) tNext)) tNext)
    (tSeq (tDrop (tBM c.K "list" rExtend (tVar 1) (tCons (tLc (iRng2 (tCons (tOp rAddI (tFld c.K (tVar 0) "bid") (tC (.int 1))) (tCons (tC (.int 35)) tNil))) (gName 2) tYes (tOp rAddI (tC (.int 3)) (tVar 2)) (List.map (fun (q : Str × Nat) => q.2) [(("bid" : Str), 2)])) tNil)))
    (tRet (tVar 1)))))
theorem d_legal_calls {P : Program} {w : World} {c : Cn} {mg : Str → Option Value} {base : Heap} {k : Nat} {sp  : Sp} (T : Tx c mg) (D : DefAt c.K mg "legal_calls" s_legal_calls) 
    (len : ∀ vs H Q E, sp vs H Q E → vs.length = 1)
    (hp : ∀ vs H Q E, sp vs H Q E → (t_legal_calls c ) { nx := fun _ H' => Q .non H', rt := Q } (start ["position", "calls", "bid"] vs) H) : FnAt P w c.K mg base (k + 1) "legal_calls" ["position"] sp :=
  D.fn sc_legal_calls (fun _ _ _ _ _ _ us hl => match us, hl with | [_], _ => rfl) len (t_legal_calls c ) hp (fun f cdv A outer s H E hr => by
    exact (pss_cons (ps_set (i := 1) sc_legal_calls.nd rfl (Or.inl rfl) (pe_lst (pa_cons (pe_gi T.i_PASS rfl) pa_nil))) (pss_cons (ps_if (PW.pt (pw_and (pt_cmpR op_ne (pe_fld (pv 0 rfl (Or.inl rfl)) rfl) (pe_gi T.i_NO_BID rfl) (nomark _)) (pw_and1 (pt_val (pe_fld (pv 0 rfl (Or.inl rfl)) rfl))))) (pss_one (ps_if (pt_cmpR op_eq (pe_fld (pv 0 rfl (Or.inl rfl)) rfl) pe_int (nomark _)) (pss_one (ps_expr (pe_bm PySem.F.plainAttrs_list PySem.F.slot_list_append PySem.F.type_list_append mt_append (pv 1 rfl (Or.inl rfl)) (pa_cons (pe_gi T.i_DOUBLE rfl) pa_nil)))) (pss_one (ps_if (pt_cmpR op_eq (pe_fld (pv 0 rfl (Or.inl rfl)) rfl) pe_int (nomark _)) (pss_one (ps_expr (pe_bm PySem.F.plainAttrs_list PySem.F.slot_list_append PySem.F.type_list_append mt_append (pv 1 rfl (Or.inl rfl)) (pa_cons (pe_gi T.i_REDOUBLE rfl) pa_nil)))) pss_nil)))) pss_nil) (pss_cons (ps_expr (pe_bm PySem.F.plainAttrs_list PySem.F.slot_list_extend PySem.F.type_list_extend mt_extend (pv 1 rfl (Or.inl rfl)) (pa_cons (pe_lc (own := [(("bid" : Str), 2)]) (g := (gName 2)) (tt := tYes) rfl sc_legal_calls.nd (pi_range2 rfl T.b_range (pa_cons (pe_op op_add (pe_fld (pv 0 rfl (Or.inl rfl)) rfl) pe_int) (pa_cons (pe_gi T.i_BIDS rfl) pa_nil))) (blkOk_by (N := ["position", "calls", "bid"]) (sc := defScope s_legal_calls) (by decide +kernel)) (fun _ _ _ _ _ => (pg_name (i := 2) sc_legal_calls.nd rfl (Or.inl rfl))) (fun _ _ _ _ _ => pts_nil) (fun _ _ _ _ _ => (pe_op op_add (pe_gi T.i_FIRST_BID rfl) (pv 2 rfl (Or.inl rfl))))) pa_nil))) (pss_one (ps_ret (pv 1 rfl (Or.inl rfl))))))))

abbrev s_position_behind : Stmt := top 84
theorem sc_position_behind : FnScope ["position", "call", "by_other"] ["position", "call"] (defScope s_position_behind) := ⟨rfl, rfl, rfl, by decide +kernel, rfl, by decide +kernel, by decide +kernel⟩
def t_position_behind (c : Cn) (q_Position : Sp) : TS :=
  (tSeq (tIfS (tTest (tOp rEq (tVar 1) (tC (.int 0)))) (tSeq (tAsg (tAndV (tOp rNe (tFld c.K (tVar 0) "bid") (tC (.int (-1)))) (tNotV (tFld c.K (tVar 0) "by_other"))) (gName 2))
    (tRet (tMake c.CP q_Position [] E0 (tCons (tFld c.K (tVar 0) "bid") (tCons (tFld c.K (tVar 0) "doubled_number") (tCons (tOp rAddI (tFld c.K (tVar 0) "passes") (tC (.int 1))) (tCons (tVar 2) tNil))))))) tNext)
    (tSeq (tIfS (tTest (tOp rLtI (tVar 1) (tC (.int 3)))) (tRet (tMake c.CP q_Position [] E0 (tCons (tFld c.K (tVar 0) "bid") (tCons (tVar 1) (tCons (tC (.int 0)) (tCons (tC (.bl true)) tNil)))))) tNext)
    (tRet (tMake c.CP q_Position [] E0 (tCons (tOp rSubI (tVar 1) (tC (.int 3))) (tCons (tC (.int 0)) (tCons (tC (.int 0)) (tCons (tC (.bl true)) tNil))))))))
theorem d_position_behind {P : Program} {w : World} {c : Cn} {mg : Str → Option Value} {base : Heap} {k : Nat} {sp q_Position : Sp} (T : Tx c mg) (D : DefAt c.K mg "position_behind" s_position_behind) (M_Position : MkAt P w c.K mg base k "Position" c.CP ["self", "bid", "doubled_number", "passes", "by_other"] q_Position)
    (len : ∀ vs H Q E, sp vs H Q E → vs.length = 2)
    (hp : ∀ vs H Q E, sp vs H Q E → (t_position_behind c q_Position) { nx := fun _ H' => Q .non H', rt := Q } (start ["position", "call", "by_other"] vs) H) : FnAt P w c.K mg base (k + 2) "position_behind" ["position", "call"] sp :=
  D.fn sc_position_behind (fun _ _ _ _ _ _ us hl => match us, hl with | [_, _], _ => rfl) len (t_position_behind c q_Position) hp (fun f cdv A outer s H E hr => by
    exact (pss_cons (ps_if (pt_cmpR op_eq (pv 1 rfl (Or.inl rfl)) (pe_gi T.i_PASS rfl) (nomark _)) (pss_cons (ps_set (i := 2) sc_position_behind.nd rfl (Or.inl rfl) (pe_and (pe_cmpR op_ne (pe_fld (pv 0 rfl (Or.inl rfl)) rfl) (pe_gi T.i_NO_BID rfl) (nomark _)) (pe_one (pe_not (pe_fld (pv 0 rfl (Or.inl rfl)) rfl))))) (pss_one (ps_ret (pe_makeF M_Position hr rfl (pa_cons (pe_fld (pv 0 rfl (Or.inl rfl)) rfl) (pa_cons (pe_fld (pv 0 rfl (Or.inl rfl)) rfl) (pa_cons (pe_op op_add (pe_fld (pv 0 rfl (Or.inl rfl)) rfl) pe_int) (pa_cons (pv 2 rfl (Or.inl rfl)) pa_nil)))))))) pss_nil) (pss_cons (ps_if (pt_cmpR op_lt (pv 1 rfl (Or.inl rfl)) (pe_gi T.i_FIRST_BID rfl) (nomark _)) (pss_one (ps_ret (pe_makeF M_Position hr rfl (pa_cons (pe_fld (pv 0 rfl (Or.inl rfl)) rfl) (pa_cons (pv 1 rfl (Or.inl rfl)) (pa_cons pe_int (pa_cons pe_bl pa_nil))))))) pss_nil) (pss_one (ps_ret (pe_makeF M_Position hr rfl (pa_cons (pe_op op_sub (pv 1 rfl (Or.inl rfl)) (pe_gi T.i_FIRST_BID rfl)) (pa_cons pe_int (pa_cons pe_int (pa_cons pe_bl pa_nil))))))))))

abbrev s_ways_with_bid : Stmt := top 85
theorem sc_ways_with_bid : FnScope ["doubled_number", "passes", "by_other", "higher", "behind_double", "ways", "may_double", "turn"] ["doubled_number", "passes", "by_other", "higher"] (defScope s_ways_with_bid) := ⟨rfl, rfl, rfl, by decide +kernel, rfl, by decide +kernel, by decide +kernel⟩
def t_ways_with_bid (c : Cn) (p_ways_with_bid : Sp) : TS :=
  (tSeq (tAsg (tC (.int 0)) (gName 4))
    (tSeq (tIfS (tTest (tOp rLtI (tVar 0) (tC (.int 2)))) (tAsg (tCall p_ways_with_bid [] E0 (tCons (tOp rAddI (tVar 0) (tC (.int 1))) (tCons (tC (.int 0)) (tCons (tC (.bl true)) (tCons (tVar 3) tNil))))) (gName 4)) tNext)
    (tSeq (tAsg (tC (.int 1)) (gName 5))
    (tSeq (tAsg (tVar 2) (gName 6))
    (tSeq (tFor (iRng2 (tCons (tVar 1) (tCons (tC (.int 3)) tNil))) (gName 7) (tSeq (tAsg (tOp rAddI (tVar 5) (tVar 3)) (gName 5))
    (tSeq (tIfS (tB (tVar 6)) (tAsg (tOp rAddI (tVar 5) (tVar 4)) (gName 5)) tNext)
    (tAsg (tNotV (tVar 6)) (gName 6)))))
    (tRet (tVar 5)))))))
theorem d_ways_with_bid {P : Program} {w : World} {c : Cn} {mg : Str → Option Value} {base : Heap} {k : Nat} {sp p_ways_with_bid : Sp} (T : Tx c mg) (D : DefAt c.K mg "ways_with_bid" s_ways_with_bid) (F_ways_with_bid : FnAt P w c.K mg base k "ways_with_bid" ["doubled_number", "passes", "by_other", "higher"] p_ways_with_bid)
    (len : ∀ vs H Q E, sp vs H Q E → vs.length = 4)
    (hp : ∀ vs H Q E, sp vs H Q E → (t_ways_with_bid c p_ways_with_bid) { nx := fun _ H' => Q .non H', rt := Q } (start ["doubled_number", "passes", "by_other", "higher", "behind_double", "ways", "may_double", "turn"] vs) H) : FnAt P w c.K mg base (k + 1) "ways_with_bid" ["doubled_number", "passes", "by_other", "higher"] sp :=
  D.fn sc_ways_with_bid (fun _ _ _ _ _ _ us hl => match us, hl with | [_, _, _, _], _ => rfl) len (t_ways_with_bid c p_ways_with_bid) hp (fun f cdv A outer s H E hr => by
    exact (pss_cons (ps_set (i := 4) sc_ways_with_bid.nd rfl (Or.inl rfl) pe_int) (pss_cons (ps_if (pt_cmpR op_lt (pv 0 rfl (Or.inl rfl)) pe_int (nomark _)) (pss_one (ps_set (i := 4) sc_ways_with_bid.nd rfl (Or.inl rfl) (pe_callF F_ways_with_bid hr rfl (pa_cons (pe_op op_add (pv 0 rfl (Or.inl rfl)) pe_int) (pa_cons pe_int (pa_cons pe_bl (pa_cons (pv 3 rfl (Or.inl rfl)) pa_nil))))))) pss_nil) (pss_cons (ps_set (i := 5) sc_ways_with_bid.nd rfl (Or.inl rfl) pe_int) (pss_cons (ps_set (i := 6) sc_ways_with_bid.nd rfl (Or.inl rfl) (pv 2 rfl (Or.inl rfl))) (pss_cons (ps_for PassesOwn.never rfl (pi_range2 rfl T.b_range (pa_cons (pv 1 rfl (Or.inl rfl)) (pa_cons pe_int pa_nil))) (pg_name (i := 7) sc_ways_with_bid.nd rfl (Or.inl rfl)) (pss_cons (ps_set (i := 5) sc_ways_with_bid.nd rfl (Or.inl rfl) (pe_op op_add (pv 5 rfl (Or.inl rfl)) (pv 3 rfl (Or.inl rfl)))) (pss_cons (ps_if (pt_val (pv 6 rfl (Or.inl rfl))) (pss_one (ps_set (i := 5) sc_ways_with_bid.nd rfl (Or.inl rfl) (pe_op op_add (pv 5 rfl (Or.inl rfl)) (pv 4 rfl (Or.inl rfl))))) pss_nil) (pss_one (ps_set (i := 6) sc_ways_with_bid.nd rfl (Or.inl rfl) (pe_not (pv 6 rfl (Or.inl rfl)))))))) (pss_one (ps_ret (pv 5 rfl (Or.inl rfl))))))))))

abbrev s_ways_from_bids : Stmt := top 86
theorem sc_ways_from_bids : FnScope ["sums", "bid"] [] (defScope s_ways_from_bids) := ⟨rfl, rfl, rfl, by decide +kernel, rfl, by decide +kernel, by decide +kernel⟩
def t_ways_from_bids (c : Cn) (p_ways_with_bid : Sp) : TS :=
  (tSeq (tAsg (tLst (tCons (tC (.int 0)) tNil)) (gName 0))
    (tSeq (tFor (iRng1 (tCons (tC (.int 35)) tNil)) (gName 1) (tDrop (tBM c.K "list" rInsert (tVar 0) (tCons (tC (.int 0)) (tCons (tOp rAddI (tOp (rIxL c.K) (tVar 0) (tC (.int 0))) (tCall p_ways_with_bid [] E0 (tCons (tC (.int 0)) (tCons (tC (.int 0)) (tCons (tC (.bl true)) (tCons (tOp (rIxL c.K) (tVar 0) (tC (.int 0))) tNil)))))) tNil)))))
    (tRet (tVar 0))))
theorem d_ways_from_bids {P : Program} {w : World} {c : Cn} {mg : Str → Option Value} {base : Heap} {k : Nat} {sp p_ways_with_bid : Sp} (T : Tx c mg) (D : DefAt c.K mg "ways_from_bids" s_ways_from_bids) (F_ways_with_bid : FnAt P w c.K mg base k "ways_with_bid" ["doubled_number", "passes", "by_other", "higher"] p_ways_with_bid)
    (len : ∀ vs H Q E, sp vs H Q E → vs.length = 0)
    (hp : ∀ vs H Q E, sp vs H Q E → (t_ways_from_bids c p_ways_with_bid) { nx := fun _ H' => Q .non H', rt := Q } (start ["sums", "bid"] vs) H) : FnAt P w c.K mg base (k + 1) "ways_from_bids" [] sp :=
  D.fn sc_ways_from_bids (fun _ _ _ _ _ _ us hl => match us, hl with | [], _ => rfl) len (t_ways_from_bids c p_ways_with_bid) hp (fun f cdv A outer s H E hr => by
    exact (pss_cons (ps_set (i := 0) sc_ways_from_bids.nd rfl (Or.inl rfl) (pe_lst (pa_cons pe_int pa_nil))) (pss_cons (ps_for PassesOwn.never rfl (pi_range1 rfl T.b_range (pa_cons (pe_gi T.i_BIDS rfl) pa_nil)) (pg_name (i := 1) sc_ways_from_bids.nd rfl (Or.inl rfl)) (pss_one (ps_expr (pe_bm PySem.F.plainAttrs_list PySem.F.slot_list_insert PySem.F.type_list_insert mt_insert (pv 0 rfl (Or.inl rfl)) (pa_cons pe_int (pa_cons (pe_op op_add (pe_ix ix_list (pv 0 rfl (Or.inl rfl)) pe_int (fun _ _ => rfl)) (pe_callF F_ways_with_bid hr rfl (pa_cons pe_int (pa_cons pe_int (pa_cons pe_bl (pa_cons (pe_ix ix_list (pv 0 rfl (Or.inl rfl)) pe_int (fun _ _ => rfl)) pa_nil)))))) pa_nil)))))) (pss_one (ps_ret (pv 0 rfl (Or.inl rfl)))))))

abbrev s_ways_of : Stmt := top 87
theorem sc_ways_of : FnScope ["position", "sums", "higher"] ["position", "sums"] (defScope s_ways_of) := ⟨rfl, rfl, rfl, by decide +kernel, rfl, by decide +kernel, by decide +kernel⟩
def t_ways_of (c : Cn) (p_is_at_end p_passes_to_end p_ways_with_bid : Sp) : TS :=
  (tSeq (tIfS (tB (tCall p_is_at_end [] E0 (tCons (tVar 0) tNil))) (tRet (tC (.int 1))) tNext)
    (tSeq (tAsg (tOp (rIxL c.K) (tVar 1) (tOp rAddI (tFld c.K (tVar 0) "bid") (tC (.int 1)))) (gName 2))
    (tSeq (tIfS (tTest (tOp rEq (tFld c.K (tVar 0) "bid") (tC (.int (-1))))) (tRet (tOp rAddI (tC (.int 1)) (tOp rMulI (tOp rSubI (tCall p_passes_to_end [] E0 (tCons (tC (.int (-1))) tNil)) (tFld c.K (tVar 0) "passes")) (tVar 2)))) tNext)
    (tRet (tCall p_ways_with_bid [] E0 (tCons (tFld c.K (tVar 0) "doubled_number") (tCons (tFld c.K (tVar 0) "passes") (tCons (tFld c.K (tVar 0) "by_other") (tCons (tVar 2) tNil)))))))))
theorem d_ways_of {P : Program} {w : World} {c : Cn} {mg : Str → Option Value} {base : Heap} {k : Nat} {sp p_is_at_end p_passes_to_end p_ways_with_bid : Sp} (T : Tx c mg) (D : DefAt c.K mg "ways_of" s_ways_of) (F_is_at_end : FnAt P w c.K mg base k "is_at_end" ["position"] p_is_at_end) (F_passes_to_end : FnAt P w c.K mg base k "passes_to_end" ["bid"] p_passes_to_end) (F_ways_with_bid : FnAt P w c.K mg base k "ways_with_bid" ["doubled_number", "passes", "by_other", "higher"] p_ways_with_bid)
    (len : ∀ vs H Q E, sp vs H Q E → vs.length = 2)
    (hp : ∀ vs H Q E, sp vs H Q E → (t_ways_of c p_is_at_end p_passes_to_end p_ways_with_bid) { nx := fun _ H' => Q .non H', rt := Q } (start ["position", "sums", "higher"] vs) H) : FnAt P w c.K mg base (k + 1) "ways_of" ["position", "sums"] sp :=
  D.fn sc_ways_of (fun _ _ _ _ _ _ us hl => match us, hl with | [_, _], _ => rfl) len (t_ways_of c p_is_at_end p_passes_to_end p_ways_with_bid) hp (fun f cdv A outer s H E hr => by
    exact (pss_cons (ps_if (pt_val (pe_callF F_is_at_end hr rfl (pa_cons (pv 0 rfl (Or.inl rfl)) pa_nil))) (pss_one (ps_ret pe_int)) pss_nil) (pss_cons (ps_set (i := 2) sc_ways_of.nd rfl (Or.inl rfl) (pe_ix ix_list (pv 1 rfl (Or.inl rfl)) (pe_op op_add (pe_fld (pv 0 rfl (Or.inl rfl)) rfl) pe_int) (fun _ _ => rfl))) (pss_cons (ps_if (pt_cmpR op_eq (pe_fld (pv 0 rfl (Or.inl rfl)) rfl) (pe_gi T.i_NO_BID rfl) (nomark _)) (pss_one (ps_ret (pe_op op_add pe_int (pe_op op_mul (pe_op op_sub (pe_callF F_passes_to_end hr rfl (pa_cons (pe_gi T.i_NO_BID rfl) pa_nil)) (pe_fld (pv 0 rfl (Or.inl rfl)) rfl)) (pv 2 rfl (Or.inl rfl)))))) pss_nil) (pss_one (ps_ret (pe_callF F_ways_with_bid hr rfl (pa_cons (pe_fld (pv 0 rfl (Or.inl rfl)) rfl) (pa_cons (pe_fld (pv 0 rfl (Or.inl rfl)) rfl) (pa_cons (pe_fld (pv 0 rfl (Or.inl rfl)) rfl) (pa_cons (pv 2 rfl (Or.inl rfl)) pa_nil)))))))))))

abbrev s_longest_with_bid : Stmt := top 88
theorem sc_longest_with_bid : FnScope ["doubled_number", "passes", "by_other", "behind_bid", "behind_double", "most", "may_double", "turn", "before"] ["doubled_number", "passes", "by_other", "behind_bid"] (defScope s_longest_with_bid) := ⟨rfl, rfl, rfl, by decide +kernel, rfl, by decide +kernel, by decide +kernel⟩
def t_longest_with_bid (c : Cn) (p_longest_with_bid : Sp) : TS :=
  (tSeq (tAsg (tC (.int 0)) (gName 4))
    (tSeq (tIfS (tTest (tOp rLtI (tVar 0) (tC (.int 2)))) (tAsg (tOp rAddI (tC (.int 1)) (tCall p_longest_with_bid [] E0 (tCons (tOp rAddI (tVar 0) (tC (.int 1))) (tCons (tC (.int 0)) (tCons (tC (.bl true)) (tCons (tVar 3) tNil)))))) (gName 4)) tNext)
    (tSeq (tAsg (tCB rMax2 (tCons (tC (.int 0)) (tCons (tOp rSubI (tC (.int 3)) (tVar 1)) tNil))) (gName 5))
    (tSeq (tAsg (tVar 2) (gName 6))
    (tSeq (tFor (iRng2 (tCons (tVar 1) (tCons (tC (.int 3)) tNil))) (gName 7) (tSeq (tAsg (tOp rSubI (tVar 7) (tVar 1)) (gName 8))
    (tSeq (tIfS (tTest (tOp rGtI (tVar 3) (tC (.int 0)))) (tAsg (tCB rMax2 (tCons (tVar 5) (tCons (tOp rAddI (tVar 8) (tVar 3)) tNil))) (gName 5)) tNext)
    (tSeq (tIfS (tAnd (tB (tVar 6)) (tTest (tOp rGtI (tVar 4) (tC (.int 0))))) (tAsg (tCB rMax2 (tCons (tVar 5) (tCons (tOp rAddI (tVar 8) (tVar 4)) tNil))) (gName 5)) tNext)
    (tAsg (tNotV (tVar 6)) (gName 6))))))
    (tRet (tVar 5)))))))
theorem d_longest_with_bid {P : Program} {w : World} {c : Cn} {mg : Str → Option Value} {base : Heap} {k : Nat} {sp p_longest_with_bid : Sp} (T : Tx c mg) (D : DefAt c.K mg "longest_with_bid" s_longest_with_bid) (F_longest_with_bid : FnAt P w c.K mg base k "longest_with_bid" ["doubled_number", "passes", "by_other", "behind_bid"] p_longest_with_bid)
    (len : ∀ vs H Q E, sp vs H Q E → vs.length = 4)
    (hp : ∀ vs H Q E, sp vs H Q E → (t_longest_with_bid c p_longest_with_bid) { nx := fun _ H' => Q .non H', rt := Q } (start ["doubled_number", "passes", "by_other", "behind_bid", "behind_double", "most", "may_double", "turn", "before"] vs) H) : FnAt P w c.K mg base (k + 1) "longest_with_bid" ["doubled_number", "passes", "by_other", "behind_bid"] sp :=
  D.fn sc_longest_with_bid (fun _ _ _ _ _ _ us hl => match us, hl with | [_, _, _, _], _ => rfl) len (t_longest_with_bid c p_longest_with_bid) hp (fun f cdv A outer s H E hr => by
    exact (pss_cons (ps_set (i := 4) sc_longest_with_bid.nd rfl (Or.inl rfl) pe_int) (pss_cons (ps_if (pt_cmpR op_lt (pv 0 rfl (Or.inl rfl)) pe_int (nomark _)) (pss_one (ps_set (i := 4) sc_longest_with_bid.nd rfl (Or.inl rfl) (pe_op op_add pe_int (pe_callF F_longest_with_bid hr rfl (pa_cons (pe_op op_add (pv 0 rfl (Or.inl rfl)) pe_int) (pa_cons pe_int (pa_cons pe_bl (pa_cons (pv 3 rfl (Or.inl rfl)) pa_nil)))))))) pss_nil) (pss_cons (ps_set (i := 5) sc_longest_with_bid.nd rfl (Or.inl rfl) (pe_callB (call_max2 rfl) rfl T.b_max (by decide +kernel) (pa_cons pe_int (pa_cons (pe_op op_sub pe_int (pv 1 rfl (Or.inl rfl))) pa_nil)))) (pss_cons (ps_set (i := 6) sc_longest_with_bid.nd rfl (Or.inl rfl) (pv 2 rfl (Or.inl rfl))) (pss_cons (ps_for PassesOwn.never rfl (pi_range2 rfl T.b_range (pa_cons (pv 1 rfl (Or.inl rfl)) (pa_cons pe_int pa_nil))) (pg_name (i := 7) sc_longest_with_bid.nd rfl (Or.inl rfl)) (pss_cons (ps_set (i := 8) sc_longest_with_bid.nd rfl (Or.inl rfl) (pe_op op_sub (pv 7 rfl (Or.inl rfl)) (pv 1 rfl (Or.inl rfl)))) (pss_cons (ps_if (pt_cmpR op_gt (pv 3 rfl (Or.inl rfl)) pe_int (nomark _)) (pss_one (ps_set (i := 5) sc_longest_with_bid.nd rfl (Or.inl rfl) (pe_callB (call_max2 rfl) rfl T.b_max (by decide +kernel) (pa_cons (pv 5 rfl (Or.inl rfl)) (pa_cons (pe_op op_add (pv 8 rfl (Or.inl rfl)) (pv 3 rfl (Or.inl rfl))) pa_nil))))) pss_nil) (pss_cons (ps_if (PW.pt (pw_and (pt_val (pv 6 rfl (Or.inl rfl))) (pw_and1 (pt_cmpR op_gt (pv 4 rfl (Or.inl rfl)) pe_int (nomark _))))) (pss_one (ps_set (i := 5) sc_longest_with_bid.nd rfl (Or.inl rfl) (pe_callB (call_max2 rfl) rfl T.b_max (by decide +kernel) (pa_cons (pv 5 rfl (Or.inl rfl)) (pa_cons (pe_op op_add (pv 8 rfl (Or.inl rfl)) (pv 4 rfl (Or.inl rfl))) pa_nil))))) pss_nil) (pss_one (ps_set (i := 6) sc_longest_with_bid.nd rfl (Or.inl rfl) (pe_not (pv 6 rfl (Or.inl rfl))))))))) (pss_one (ps_ret (pv 5 rfl (Or.inl rfl))))))))))

abbrev s_longest_from_bid : Stmt := top 89
theorem sc_longest_from_bid : FnScope ["least", "most", "step"] ["least"] (defScope s_longest_from_bid) := ⟨rfl, rfl, rfl, by decide +kernel, rfl, by decide +kernel, by decide +kernel⟩
def t_longest_from_bid (c : Cn) (p_longest_with_bid : Sp) : TS :=
  (tSeq (tAsg (tC (.int 0)) (gName 1))
    (tSeq (tFor (iRng1 (tCons (tOp rSubI (tC (.int 35)) (tVar 0)) tNil)) (gName 2) (tAsg (tCB rMax2 (tCons (tVar 1) (tCons (tOp rAddI (tC (.int 1)) (tCall p_longest_with_bid [] E0 (tCons (tC (.int 0)) (tCons (tC (.int 0)) (tCons (tC (.bl true)) (tCons (tVar 1) tNil)))))) tNil))) (gName 1)))
    (tRet (tVar 1))))
theorem d_longest_from_bid {P : Program} {w : World} {c : Cn} {mg : Str → Option Value} {base : Heap} {k : Nat} {sp p_longest_with_bid : Sp} (T : Tx c mg) (D : DefAt c.K mg "longest_from_bid" s_longest_from_bid) (F_longest_with_bid : FnAt P w c.K mg base k "longest_with_bid" ["doubled_number", "passes", "by_other", "behind_bid"] p_longest_with_bid)
    (len : ∀ vs H Q E, sp vs H Q E → vs.length = 1)
    (hp : ∀ vs H Q E, sp vs H Q E → (t_longest_from_bid c p_longest_with_bid) { nx := fun _ H' => Q .non H', rt := Q } (start ["least", "most", "step"] vs) H) : FnAt P w c.K mg base (k + 1) "longest_from_bid" ["least"] sp :=
  D.fn sc_longest_from_bid (fun _ _ _ _ _ _ us hl => match us, hl with | [_], _ => rfl) len (t_longest_from_bid c p_longest_with_bid) hp (fun f cdv A outer s H E hr => by
    exact (pss_cons (ps_set (i := 1) sc_longest_from_bid.nd rfl (Or.inl rfl) pe_int) (pss_cons (ps_for PassesOwn.never rfl (pi_range1 rfl T.b_range (pa_cons (pe_op op_sub (pe_gi T.i_BIDS rfl) (pv 0 rfl (Or.inl rfl))) pa_nil)) (pg_name (i := 2) sc_longest_from_bid.nd rfl (Or.inl rfl)) (pss_one (ps_set (i := 1) sc_longest_from_bid.nd rfl (Or.inl rfl) (pe_callB (call_max2 rfl) rfl T.b_max (by decide +kernel) (pa_cons (pv 1 rfl (Or.inl rfl)) (pa_cons (pe_op op_add pe_int (pe_callF F_longest_with_bid hr rfl (pa_cons pe_int (pa_cons pe_int (pa_cons pe_bl (pa_cons (pv 1 rfl (Or.inl rfl)) pa_nil)))))) pa_nil)))))) (pss_one (ps_ret (pv 1 rfl (Or.inl rfl)))))))

abbrev s_longest_of : Stmt := top 90
theorem sc_longest_of : FnScope ["position", "behind_bid"] ["position"] (defScope s_longest_of) := ⟨rfl, rfl, rfl, by decide +kernel, rfl, by decide +kernel, by decide +kernel⟩
def t_longest_of (c : Cn) (p_is_at_end p_longest_from_bid p_longest_with_bid p_passes_to_end : Sp) : TS :=
  (tSeq (tIfS (tB (tCall p_is_at_end [] E0 (tCons (tVar 0) tNil))) (tRet (tC (.int 0))) tNext)
    (tSeq (tAsg (tCall p_longest_from_bid [] E0 (tCons (tOp rAddI (tFld c.K (tVar 0) "bid") (tC (.int 1))) tNil)) (gName 1))
    (tSeq (tIfS (tTest (tOp rEq (tFld c.K (tVar 0) "bid") (tC (.int (-1))))) (tRet (tOp rAddI (tOp rSubI (tOp rSubI (tCall p_passes_to_end [] E0 (tCons (tC (.int (-1))) tNil)) (tC (.int 1))) (tFld c.K (tVar 0) "passes")) (tVar 1))) tNext)
    (tRet (tCall p_longest_with_bid [] E0 (tCons (tFld c.K (tVar 0) "doubled_number") (tCons (tFld c.K (tVar 0) "passes") (tCons (tFld c.K (tVar 0) "by_other") (tCons (tVar 1) tNil)))))))))
theorem d_longest_of {P : Program} {w : World} {c : Cn} {mg : Str → Option Value} {base : Heap} {k : Nat} {sp p_is_at_end p_longest_from_bid p_longest_with_bid p_passes_to_end : Sp} (T : Tx c mg) (D : DefAt c.K mg "longest_of" s_longest_of) (F_is_at_end : FnAt P w c.K mg base k "is_at_end" ["position"] p_is_at_end) (F_longest_from_bid : FnAt P w c.K mg base k "longest_from_bid" ["least"] p_longest_from_bid) (F_longest_with_bid : FnAt P w c.K mg base k "longest_with_bid" ["doubled_number", "passes", "by_other", "behind_bid"] p_longest_with_bid) (F_passes_to_end : FnAt P w c.K mg base k "passes_to_end" ["bid"] p_passes_to_end)
    (len : ∀ vs H Q E, sp vs H Q E → vs.length = 1)
    (hp : ∀ vs H Q E, sp vs H Q E → (t_longest_of c p_is_at_end p_longest_from_bid p_longest_with_bid p_passes_to_end) { nx := fun _ H' => Q .non H', rt := Q } (start ["position", "behind_bid"] vs) H) : FnAt P w c.K mg base (k + 1) "longest_of" ["position"] sp :=
  D.fn sc_longest_of (fun _ _ _ _ _ _ us hl => match us, hl with | [_], _ => rfl) len (t_longest_of c p_is_at_end p_longest_from_bid p_longest_with_bid p_passes_to_end) hp (fun f cdv A outer s H E hr => by
    exact (pss_cons (ps_if (pt_val (pe_callF F_is_at_end hr rfl (pa_cons (pv 0 rfl (Or.inl rfl)) pa_nil))) (pss_one (ps_ret pe_int)) pss_nil) (pss_cons (ps_set (i := 1) sc_longest_of.nd rfl (Or.inl rfl) (pe_callF F_longest_from_bid hr rfl (pa_cons (pe_op op_add (pe_fld (pv 0 rfl (Or.inl rfl)) rfl) pe_int) pa_nil))) (pss_cons (ps_if (pt_cmpR op_eq (pe_fld (pv 0 rfl (Or.inl rfl)) rfl) (pe_gi T.i_NO_BID rfl) (nomark _)) (pss_one (ps_ret (pe_op op_add (pe_op op_sub (pe_op op_sub (pe_callF F_passes_to_end hr rfl (pa_cons (pe_gi T.i_NO_BID rfl) pa_nil)) pe_int) (pe_fld (pv 0 rfl (Or.inl rfl)) rfl)) (pv 1 rfl (Or.inl rfl))))) pss_nil) (pss_one (ps_ret (pe_callF F_longest_with_bid hr rfl (pa_cons (pe_fld (pv 0 rfl (Or.inl rfl)) rfl) (pa_cons (pe_fld (pv 0 rfl (Or.inl rfl)) rfl) (pa_cons (pe_fld (pv 0 rfl (Or.inl rfl)) rfl) (pa_cons (pv 1 rfl (Or.inl rfl)) pa_nil)))))))))))

abbrev s_number_of : Stmt := top 92
theorem sc_number_of : FnScope ["dealer", "made", "sums", "position", "number", "place", "pair", "seat", "call", "smaller"] ["dealer", "made"] (defScope s_number_of) := ⟨rfl, rfl, rfl, by decide +kernel, rfl, by decide +kernel, by decide +kernel⟩
def t_number_of (c : Cn) (p_first_position p_is_at_end p_legal_calls p_position_behind p_ways_from_bids p_ways_of : Sp) : TS :=
  (tSeq (tAsg (tCall p_ways_from_bids [] E0 tNil) (gName 2))
    (tSeq (tAsg (tCall p_first_position [] E0 tNil) (gName 3))
    (tSeq (tAsg (tC (.int 0)) (gName 4))
    (tSeq (tFor (iEnum c.K (tCons (tVar 1) tNil)) (gTup c.K 2 (gCons (gName 5) (gCons (gName 6) gNil))) (tSeq (tAsg (tVar 6) (gTup c.K 2 (gCons (gName 7) (gCons (gName 8) gNil))))
    (tSeq (tIfS (tOr (tTest (tOp rNe (tVar 7) (tOp rModI (tOp rAddI (tVar 0) (tVar 5)) (tC (.int 4))))) (tOr (tB (tCall p_is_at_end [] E0 (tCons (tVar 3) tNil))) (tTest (tOp (rIn c.K true) (tVar 8) (tCall p_legal_calls [] E0 (tCons (tVar 3) tNil)))))) (tRet (tC .non)) tNext)
    (tSeq (tFor (iList c.K (tCall p_legal_calls [] E0 (tCons (tVar 3) tNil))) (gName 9) (tIfS (tTest (tOp rLtI (tVar 9) (tVar 8))) (tAsg (tOp rAddI (tVar 4) (tCall p_ways_of [] E0 (tCons (tCall p_position_behind [] E0 (tCons (tVar 3) (tCons (tVar 9) tNil))) (tCons (tVar 2) tNil)))) (gName 4)) tNext))
    (tAsg (tCall p_position_behind [] E0 (tCons (tVar 3) (tCons (tVar 8) tNil))) (gName 3))))))
    (tRet (tVar 4))))))
theorem d_number_of {P : Program} {w : World} {c : Cn} {mg : Str → Option Value} {base : Heap} {k : Nat} {sp p_first_position p_is_at_end p_legal_calls p_position_behind p_ways_from_bids p_ways_of : Sp} (T : Tx c mg) (D : DefAt c.K mg "number_of" s_number_of) (F_first_position : FnAt P w c.K mg base k "first_position" [] p_first_position) (F_is_at_end : FnAt P w c.K mg base k "is_at_end" ["position"] p_is_at_end) (F_legal_calls : FnAt P w c.K mg base k "legal_calls" ["position"] p_legal_calls) (F_position_behind : FnAt P w c.K mg base k "position_behind" ["position", "call"] p_position_behind) (F_ways_from_bids : FnAt P w c.K mg base k "ways_from_bids" [] p_ways_from_bids) (F_ways_of : FnAt P w c.K mg base k "ways_of" ["position", "sums"] p_ways_of)
    (len : ∀ vs H Q E, sp vs H Q E → vs.length = 2)
    (hp : ∀ vs H Q E, sp vs H Q E → (t_number_of c p_first_position p_is_at_end p_legal_calls p_position_behind p_ways_from_bids p_ways_of) { nx := fun _ H' => Q .non H', rt := Q } (start ["dealer", "made", "sums", "position", "number", "place", "pair", "seat", "call", "smaller"] vs) H) : FnAt P w c.K mg base (k + 1) "number_of" ["dealer", "made"] sp :=
  D.fn sc_number_of (fun _ _ _ _ _ _ us hl => match us, hl with | [_, _], _ => rfl) len (t_number_of c p_first_position p_is_at_end p_legal_calls p_position_behind p_ways_from_bids p_ways_of) hp (fun f cdv A outer s H E hr => by
    exact (pss_cons (ps_set (i := 2) sc_number_of.nd rfl (Or.inl rfl) (pe_callF0 F_ways_from_bids hr rfl)) (pss_cons (ps_set (i := 3) sc_number_of.nd rfl (Or.inl rfl) (pe_callF0 F_first_position hr rfl)) (pss_cons (ps_set (i := 4) sc_number_of.nd rfl (Or.inl rfl) pe_int) (pss_cons (ps_for PassesOwn.never rfl (pi_enum rfl T.b_enumerate (pa_cons (pv 1 rfl (Or.inl rfl)) pa_nil)) (pg_tup rfl (pgs_cons (pg_name (i := 5) sc_number_of.nd rfl (Or.inl rfl)) (pgs_cons (pg_name (i := 6) sc_number_of.nd rfl (Or.inl rfl)) pgs_nil))) (pss_cons (ps_asg (pv 6 rfl (Or.inl rfl)) (pg_tup rfl (pgs_cons (pg_name (i := 7) sc_number_of.nd rfl (Or.inl rfl)) (pgs_cons (pg_name (i := 8) sc_number_of.nd rfl (Or.inl rfl)) pgs_nil)))) (pss_cons (ps_if (PW.pt (pw_or (pt_cmpR op_ne (pv 7 rfl (Or.inl rfl)) (pe_op op_mod (pe_op op_add (pv 0 rfl (Or.inl rfl)) (pv 5 rfl (Or.inl rfl))) pe_int) (nomark _)) (pw_or (pt_val (pe_callF F_is_at_end hr rfl (pa_cons (pv 3 rfl (Or.inl rfl)) pa_nil))) (pw_or1 (pt_cmpR op_notIn_seq (pv 8 rfl (Or.inl rfl)) (pe_callF F_legal_calls hr rfl (pa_cons (pv 3 rfl (Or.inl rfl)) pa_nil)) (by rfl)))))) (pss_one (ps_ret pe_non)) pss_nil) (pss_cons (ps_for PassesOwn.never rfl (pi_list (pe_callF F_legal_calls hr rfl (pa_cons (pv 3 rfl (Or.inl rfl)) pa_nil))) (pg_name (i := 9) sc_number_of.nd rfl (Or.inl rfl)) (pss_one (ps_if (pt_cmpR op_lt (pv 9 rfl (Or.inl rfl)) (pv 8 rfl (Or.inl rfl)) (nomark _)) (pss_one (ps_set (i := 4) sc_number_of.nd rfl (Or.inl rfl) (pe_op op_add (pv 4 rfl (Or.inl rfl)) (pe_callF F_ways_of hr rfl (pa_cons (pe_callF F_position_behind hr rfl (pa_cons (pv 3 rfl (Or.inl rfl)) (pa_cons (pv 9 rfl (Or.inl rfl)) pa_nil))) (pa_cons (pv 2 rfl (Or.inl rfl)) pa_nil)))))) pss_nil))) (pss_one (ps_set (i := 3) sc_number_of.nd rfl (Or.inl rfl) (pe_callF F_position_behind hr rfl (pa_cons (pv 3 rfl (Or.inl rfl)) (pa_cons (pv 8 rfl (Or.inl rfl)) pa_nil))))))))) (pss_one (ps_ret (pv 4 rfl (Or.inl rfl)))))))))

abbrev s_auction_with_number : Stmt := top 93
theorem sc_auction_with_number : FnScope ["number", "sums", "position", "calls", "left", "call", "before"] ["number"] (defScope s_auction_with_number) := ⟨rfl, rfl, rfl, by decide +kernel, rfl, by decide +kernel, by decide +kernel⟩
def t_auction_with_number (c : Cn) (p_call_with p_first_position p_is_at_end p_position_behind p_ways_from_bids p_ways_of : Sp) : TS :=
  (tSeq (tAsg (tCall p_ways_from_bids [] E0 tNil) (gName 1))
    (tSeq (tAsg (tCall p_first_position [] E0 tNil) (gName 2))
    (tSeq (tIfS (tTest (tOp rGeI (tVar 0) (tCall p_ways_of [] E0 (tCons (tVar 2) (tCons (tVar 1) tNil))))) (tRet (tC .non)) tNext)
    (tSeq (tAsg (tLst tNil) (gName 3))
    (tSeq (tAsg (tVar 0) (gName 4))
    (tSeq (tWhile (tNot (tB (tCall p_is_at_end [] E0 (tCons (tVar 2) tNil)))) (tSeq (tAsg (tCall p_call_with [] E0 (tCons (tVar 2) (tCons (tVar 1) (tCons (tVar 4) tNil)))) (gTup c.K 2 (gCons (gName 5) (gCons (gName 6) gNil))))
    (tSeq (tAsg (tOp rSubI (tVar 4) (tVar 6)) (gName 4))
    (tSeq (tDrop (tBM c.K "list" rAppend (tVar 3) (tCons (tVar 5) tNil)))
    (tAsg (tCall p_position_behind [] E0 (tCons (tVar 2) (tCons (tVar 5) tNil))) (gName 2))))))
    (tRet (tVar 3))))))))
theorem d_auction_with_number {P : Program} {w : World} {c : Cn} {mg : Str → Option Value} {base : Heap} {k : Nat} {sp p_call_with p_first_position p_is_at_end p_position_behind p_ways_from_bids p_ways_of : Sp} (T : Tx c mg) (D : DefAt c.K mg "auction_with_number" s_auction_with_number) (F_call_with : FnAt P w c.K mg base k "call_with" ["position", "sums", "number"] p_call_with) (F_first_position : FnAt P w c.K mg base k "first_position" [] p_first_position) (F_is_at_end : FnAt P w c.K mg base k "is_at_end" ["position"] p_is_at_end) (F_position_behind : FnAt P w c.K mg base k "position_behind" ["position", "call"] p_position_behind) (F_ways_from_bids : FnAt P w c.K mg base k "ways_from_bids" [] p_ways_from_bids) (F_ways_of : FnAt P w c.K mg base k "ways_of" ["position", "sums"] p_ways_of)
    (len : ∀ vs H Q E, sp vs H Q E → vs.length = 1)
    (hp : ∀ vs H Q E, sp vs H Q E → (t_auction_with_number c p_call_with p_first_position p_is_at_end p_position_behind p_ways_from_bids p_ways_of) { nx := fun _ H' => Q .non H', rt := Q } (start ["number", "sums", "position", "calls", "left", "call", "before"] vs) H) : FnAt P w c.K mg base (k + 1) "auction_with_number" ["number"] sp :=
  D.fn sc_auction_with_number (fun _ _ _ _ _ _ us hl => match us, hl with | [_], _ => rfl) len (t_auction_with_number c p_call_with p_first_position p_is_at_end p_position_behind p_ways_from_bids p_ways_of) hp (fun f cdv A outer s H E hr => by
    exact (pss_cons (ps_set (i := 1) sc_auction_with_number.nd rfl (Or.inl rfl) (pe_callF0 F_ways_from_bids hr rfl)) (pss_cons (ps_set (i := 2) sc_auction_with_number.nd rfl (Or.inl rfl) (pe_callF0 F_first_position hr rfl)) (pss_cons (ps_if (pt_cmpR op_ge (pv 0 rfl (Or.inl rfl)) (pe_callF F_ways_of hr rfl (pa_cons (pv 2 rfl (Or.inl rfl)) (pa_cons (pv 1 rfl (Or.inl rfl)) pa_nil))) (nomark _)) (pss_one (ps_ret pe_non)) pss_nil) (pss_cons (ps_set (i := 3) sc_auction_with_number.nd rfl (Or.inl rfl) (pe_lst pa_nil)) (pss_cons (ps_set (i := 4) sc_auction_with_number.nd rfl (Or.inl rfl) (pv 0 rfl (Or.inl rfl))) (pss_cons (ps_while PassesOwn.never (pt_not (pt_val (pe_callF F_is_at_end hr rfl (pa_cons (pv 2 rfl (Or.inl rfl)) pa_nil)))) (pss_cons (ps_asg (pe_callF F_call_with hr rfl (pa_cons (pv 2 rfl (Or.inl rfl)) (pa_cons (pv 1 rfl (Or.inl rfl)) (pa_cons (pv 4 rfl (Or.inl rfl)) pa_nil)))) (pg_tup rfl (pgs_cons (pg_name (i := 5) sc_auction_with_number.nd rfl (Or.inl rfl)) (pgs_cons (pg_name (i := 6) sc_auction_with_number.nd rfl (Or.inl rfl)) pgs_nil)))) (pss_cons (ps_set (i := 4) sc_auction_with_number.nd rfl (Or.inl rfl) (pe_op op_sub (pv 4 rfl (Or.inl rfl)) (pv 6 rfl (Or.inl rfl)))) (pss_cons (ps_expr (pe_bm PySem.F.plainAttrs_list PySem.F.slot_list_append PySem.F.type_list_append mt_append (pv 3 rfl (Or.inl rfl)) (pa_cons (pv 5 rfl (Or.inl rfl)) pa_nil))) (pss_one (ps_set (i := 2) sc_auction_with_number.nd rfl (Or.inl rfl) (pe_callF F_position_behind hr rfl (pa_cons (pv 2 rfl (Or.inl rfl)) (pa_cons (pv 5 rfl (Or.inl rfl)) pa_nil))))))))) (pss_one (ps_ret (pv 3 rfl (Or.inl rfl)))))))))))

abbrev s_call_with : Stmt := top 94
theorem sc_call_with : FnScope ["position", "sums", "number", "before", "call", "ways"] ["position", "sums", "number"] (defScope s_call_with) := ⟨rfl, rfl, rfl, by decide +kernel, rfl, by decide +kernel, by decide +kernel⟩
def t_call_with (c : Cn) (p_legal_calls p_position_behind p_ways_of : Sp) : TS :=
  (tSeq (tAsg (tC (.int 0)) (gName 3))
    (tSeq (tFor (iList c.K (tCall p_legal_calls [] E0 (tCons (tVar 0) tNil))) (gName 4) (tSeq (tAsg (tCall p_ways_of [] E0 (tCons (tCall p_position_behind [] E0 (tCons (tVar 0) (tCons (tVar 4) tNil))) (tCons (tVar 1) tNil))) (gName 5))
    (tSeq (tIfS (tTest (tOp rLtI (tVar 2) (tOp rAddI (tVar 3) (tVar 5)))) (tRet (tTup (tCons (tVar 4) (tCons (tVar 3) tNil)))) tNext)
    (tAsg (tOp rAddI (tVar 3) (tVar 5)) (gName 3)))))
    (tRet (tC .non))))
theorem d_call_with {P : Program} {w : World} {c : Cn} {mg : Str → Option Value} {base : Heap} {k : Nat} {sp p_legal_calls p_position_behind p_ways_of : Sp} (T : Tx c mg) (D : DefAt c.K mg "call_with" s_call_with) (F_legal_calls : FnAt P w c.K mg base k "legal_calls" ["position"] p_legal_calls) (F_position_behind : FnAt P w c.K mg base k "position_behind" ["position", "call"] p_position_behind) (F_ways_of : FnAt P w c.K mg base k "ways_of" ["position", "sums"] p_ways_of)
    (len : ∀ vs H Q E, sp vs H Q E → vs.length = 3)
    (hp : ∀ vs H Q E, sp vs H Q E → (t_call_with c p_legal_calls p_position_behind p_ways_of) { nx := fun _ H' => Q .non H', rt := Q } (start ["position", "sums", "number", "before", "call", "ways"] vs) H) : FnAt P w c.K mg base (k + 1) "call_with" ["position", "sums", "number"] sp :=
  D.fn sc_call_with (fun _ _ _ _ _ _ us hl => match us, hl with | [_, _, _], _ => rfl) len (t_call_with c p_legal_calls p_position_behind p_ways_of) hp (fun f cdv A outer s H E hr => by
    exact (pss_cons (ps_set (i := 3) sc_call_with.nd rfl (Or.inl rfl) pe_int) (pss_cons (ps_for PassesOwn.never rfl (pi_list (pe_callF F_legal_calls hr rfl (pa_cons (pv 0 rfl (Or.inl rfl)) pa_nil))) (pg_name (i := 4) sc_call_with.nd rfl (Or.inl rfl)) (pss_cons (ps_set (i := 5) sc_call_with.nd rfl (Or.inl rfl) (pe_callF F_ways_of hr rfl (pa_cons (pe_callF F_position_behind hr rfl (pa_cons (pv 0 rfl (Or.inl rfl)) (pa_cons (pv 4 rfl (Or.inl rfl)) pa_nil))) (pa_cons (pv 1 rfl (Or.inl rfl)) pa_nil)))) (pss_cons (ps_if (pt_cmpR op_lt (pv 2 rfl (Or.inl rfl)) (pe_op op_add (pv 3 rfl (Or.inl rfl)) (pv 5 rfl (Or.inl rfl))) (nomark _)) (pss_one (ps_ret (pe_tup (pa_cons (pv 4 rfl (Or.inl rfl)) (pa_cons (pv 3 rfl (Or.inl rfl)) pa_nil))))) pss_nil) (pss_one (ps_set (i := 3) sc_call_with.nd rfl (Or.inl rfl) (pe_op op_add (pv 3 rfl (Or.inl rfl)) (pv 5 rfl (Or.inl rfl)))))))) (pss_one (ps_ret pe_non)))))

abbrev s_show_table : Stmt := top 99
theorem sc_show_table : FnScope ["table", "made", "over", "waits", "mends", "answer", "seat"] ["table"] (defScope s_show_table) := ⟨rfl, rfl, rfl, by decide +kernel, rfl, by decide +kernel, by decide +kernel⟩
def t_show_table (c : Cn) (p_bound_number p_doubled p_is_over p_last_bid p_passes_at_end p_turn_of : Sp) : TS :=
  (tSeq (tIfS (tTest (tOp rIsN (tVar 0) (tC .non))) (tRet (tLst (tCons (tC (.int (-3))) tNil))) tNext)
    (tSeq (tAsg (tFld c.K (tVar 0) "made") (gName 1))
    (tSeq (tAsg (tIf (tB (tCall p_is_over [] E0 (tCons (tVar 1) tNil))) (tC (.int 1)) (tC (.int 0))) (gName 2))
    (tSeq (tAsg (tIf (tTest (tOp rIsN (tFld c.K (tVar 0) "waiting") (tC .non))) (tC (.int 0)) (tOp (rIxT c.K) (tFld c.K (tVar 0) "waiting") (tC (.int 2)))) (gName 3))
    (tSeq (tAsg (tIf (tTest (tOp rIsN (tFld c.K (tVar 0) "mending") (tC .non))) (tC (.int 0)) (tC (.int 1))) (gName 4))
    (tSeq (tAsg (tLst (tCons (tC (.int 0)) (tCons (tCall p_turn_of [] E0 (tCons (tVar 0) tNil)) (tCons (tOp rAddI (tCall p_last_bid [] E0 (tCons (tVar 1) tNil)) (tC (.int 1))) (tCons (tCall p_doubled [] E0 (tCons (tVar 1) tNil)) (tCons (tCall p_passes_at_end [] E0 (tCons (tVar 1) tNil)) (tCons (tVar 2) (tCons (tVar 3) (tCons (tVar 4) tNil))))))))) (gName 5))
    (tSeq (tFor (iRng1 (tCons (tC (.int 4)) tNil)) (gName 6) (tDrop (tBM c.K "list" rAppend (tVar 5) (tCons (tCall p_bound_number [] E0 (tCons (tVar 0) (tCons (tVar 6) tNil))) tNil))))
    (tRet (tVar 5)))))))))
theorem d_show_table {P : Program} {w : World} {c : Cn} {mg : Str → Option Value} {base : Heap} {k : Nat} {sp p_bound_number p_doubled p_is_over p_last_bid p_passes_at_end p_turn_of : Sp} (T : Tx c mg) (D : DefAt c.K mg "show_table" s_show_table) (F_bound_number : FnAt P w c.K mg base k "bound_number" ["table", "seat"] p_bound_number) (F_doubled : FnAt P w c.K mg base k "doubled" ["made"] p_doubled) (F_is_over : FnAt P w c.K mg base k "is_over" ["made"] p_is_over) (F_last_bid : FnAt P w c.K mg base k "last_bid" ["made"] p_last_bid) (F_passes_at_end : FnAt P w c.K mg base k "passes_at_end" ["made"] p_passes_at_end) (F_turn_of : FnAt P w c.K mg base k "turn_of" ["table"] p_turn_of)
    (len : ∀ vs H Q E, sp vs H Q E → vs.length = 1)
    (hp : ∀ vs H Q E, sp vs H Q E → (t_show_table c p_bound_number p_doubled p_is_over p_last_bid p_passes_at_end p_turn_of) { nx := fun _ H' => Q .non H', rt := Q } (start ["table", "made", "over", "waits", "mends", "answer", "seat"] vs) H) : FnAt P w c.K mg base (k + 1) "show_table" ["table"] sp :=
  D.fn sc_show_table (fun _ _ _ _ _ _ us hl => match us, hl with | [_], _ => rfl) len (t_show_table c p_bound_number p_doubled p_is_over p_last_bid p_passes_at_end p_turn_of) hp (fun f cdv A outer s H E hr => by
    exact (pss_cons (ps_if (pt_cmpR op_isN1 (pv 0 rfl (Or.inl rfl)) pe_non (nomark _)) (pss_one (ps_ret (pe_lst (pa_cons (pe_gi T.i_NO_AUCTION rfl) pa_nil)))) pss_nil) (pss_cons (ps_set (i := 1) sc_show_table.nd rfl (Or.inl rfl) (pe_fld (pv 0 rfl (Or.inl rfl)) rfl)) (pss_cons (ps_set (i := 2) sc_show_table.nd rfl (Or.inl rfl) (pe_ifExp (pt_val (pe_callF F_is_over hr rfl (pa_cons (pv 1 rfl (Or.inl rfl)) pa_nil))) pe_int pe_int)) (pss_cons (ps_set (i := 3) sc_show_table.nd rfl (Or.inl rfl) (pe_ifExp (pt_cmpR op_isN1 (pe_fld (pv 0 rfl (Or.inl rfl)) rfl) pe_non (nomark _)) pe_int (pe_ix ix_tup (pe_fld (pv 0 rfl (Or.inl rfl)) rfl) pe_int (fun _ _ => rfl)))) (pss_cons (ps_set (i := 4) sc_show_table.nd rfl (Or.inl rfl) (pe_ifExp (pt_cmpR op_isN1 (pe_fld (pv 0 rfl (Or.inl rfl)) rfl) pe_non (nomark _)) pe_int pe_int)) (pss_cons (ps_set (i := 5) sc_show_table.nd rfl (Or.inl rfl) (pe_lst (pa_cons pe_int (pa_cons (pe_callF F_turn_of hr rfl (pa_cons (pv 0 rfl (Or.inl rfl)) pa_nil)) (pa_cons (pe_op op_add (pe_callF F_last_bid hr rfl (pa_cons (pv 1 rfl (Or.inl rfl)) pa_nil)) pe_int) (pa_cons (pe_callF F_doubled hr rfl (pa_cons (pv 1 rfl (Or.inl rfl)) pa_nil)) (pa_cons (pe_callF F_passes_at_end hr rfl (pa_cons (pv 1 rfl (Or.inl rfl)) pa_nil)) (pa_cons (pv 2 rfl (Or.inl rfl)) (pa_cons (pv 3 rfl (Or.inl rfl)) (pa_cons (pv 4 rfl (Or.inl rfl)) pa_nil)))))))))) (pss_cons (ps_for PassesOwn.never rfl (pi_range1 rfl T.b_range (pa_cons pe_int pa_nil)) (pg_name (i := 6) sc_show_table.nd rfl (Or.inl rfl)) (pss_one (ps_expr (pe_bm PySem.F.plainAttrs_list PySem.F.slot_list_append PySem.F.type_list_append mt_append (pv 5 rfl (Or.inl rfl)) (pa_cons (pe_callF F_bound_number hr rfl (pa_cons (pv 0 rfl (Or.inl rfl)) (pa_cons (pv 6 rfl (Or.inl rfl)) pa_nil))) pa_nil))))) (pss_one (ps_ret (pv 5 rfl (Or.inl rfl))))))))))))

abbrev s_bound_number : Stmt := top 100
theorem sc_bound_number : FnScope ["table", "seat"] ["table", "seat"] (defScope s_bound_number) := ⟨rfl, rfl, rfl, by decide +kernel, rfl, by decide +kernel, by decide +kernel⟩
def t_bound_number (c : Cn) : TS :=
  (tSeq (tIfS (tB (tOp (rIxL c.K) (tFld c.K (tVar 0) "barred") (tVar 1))) (tRet (tC (.int 2))) tNext)
    (tRet (tIf (tB (tOp (rIxL c.K) (tFld c.K (tVar 0) "once") (tVar 1))) (tC (.int 1)) (tC (.int 0)))))
theorem d_bound_number {P : Program} {w : World} {c : Cn} {mg : Str → Option Value} {base : Heap} {k : Nat} {sp  : Sp} (T : Tx c mg) (D : DefAt c.K mg "bound_number" s_bound_number) 
    (len : ∀ vs H Q E, sp vs H Q E → vs.length = 2)
    (hp : ∀ vs H Q E, sp vs H Q E → (t_bound_number c ) { nx := fun _ H' => Q .non H', rt := Q } (start ["table", "seat"] vs) H) : FnAt P w c.K mg base (k + 1) "bound_number" ["table", "seat"] sp :=
  D.fn sc_bound_number (fun _ _ _ _ _ _ us hl => match us, hl with | [_, _], _ => rfl) len (t_bound_number c ) hp (fun f cdv A outer s H E hr => by
    exact (pss_cons (ps_if (pt_val (pe_ix ix_list (pe_fld (pv 0 rfl (Or.inl rfl)) rfl) (pv 1 rfl (Or.inl rfl)) (fun _ _ => rfl))) (pss_one (ps_ret pe_int)) pss_nil) (pss_one (ps_ret (pe_ifExp (pt_val (pe_ix ix_list (pe_fld (pv 0 rfl (Or.inl rfl)) rfl) (pv 1 rfl (Or.inl rfl)) (fun _ _ => rfl))) pe_int pe_int)))))

abbrev s_legals : Stmt := top 101
theorem sc_legals : FnScope ["table", "seat", "calls", "call"] ["table"] (defScope s_legals) := ⟨rfl, rfl, rfl, by decide +kernel, rfl, by decide +kernel, by decide +kernel⟩
def t_legals (c : Cn) (p_is_legal p_must_pass p_turn_of : Sp) : TS :=
  (tSeq (tIfS (tTest (tOp rIsN (tVar 0) (tC .non))) (tRet (tLst (tCons (tC (.int (-3))) tNil))) tNext)
    (tSeq (tIfS (tTest (tOp rNotN (tFld c.K (tVar 0) "waiting") (tC .non))) (tRet (tLst (tCons (tC (.int (-5))) tNil))) tNext)
    (tSeq (tAsg (tCall p_turn_of [] E0 (tCons (tVar 0) tNil)) (gName 1))
    (tSeq (tAsg (tLc (iRng1 (tCons (tC (.int 38)) tNil)) (gName 3) (tB (tCall p_is_legal [] E0 (tCons (tFld c.K (tVar 0) "made") (tCons (tVar 1) (tCons (tVar 3) tNil))))) (tVar 3) (List.map (fun (q : Str × Nat) => q.2) [(("call" : Str), 3)])) (gName 2))
    (tSeq (tIfS (tB (tCall p_must_pass [] E0 (tCons (tVar 0) (tCons (tVar 1) tNil)))) (tAsg (tLc (iList c.K (tVar 2)) (gName 3) (tTest (tOp rEq (tVar 3) (tC (.int 0)))) (tVar 3) (List.map (fun (q : Str × Nat) => q.2) [(("call" : Str), 3)])) (gName 2)) tNext)
    (tSeq (tIfS (tTest (tOp rNotN (tFld c.K (tVar 0) "mending") (tC .non))) (tAsg (tLc (iList c.K (tVar 2)) (gName 3) (tOr (tTest (tOp rEq (tVar 3) (tC (.int 0)))) (tTest (tOp rGeI (tVar 3) (tC (.int 3))))) (tVar 3) (List.map (fun (q : Str × Nat) => q.2) [(("call" : Str), 3)])) (gName 2)) tNext)
    (tRet (tOp rCat (tLst (tCons (tC (.int 0)) tNil)) (tVar 2)))))))))
theorem d_legals {P : Program} {w : World} {c : Cn} {mg : Str → Option Value} {base : Heap} {k : Nat} {sp p_is_legal p_must_pass p_turn_of : Sp} (T : Tx c mg) (D : DefAt c.K mg "legals" s_legals) (F_is_legal : FnAt P w c.K mg base k "is_legal" ["made", "seat", "call"] p_is_legal) (F_must_pass : FnAt P w c.K mg base k "must_pass" ["table", "seat"] p_must_pass) (F_turn_of : FnAt P w c.K mg base k "turn_of" ["table"] p_turn_of)
    (len : ∀ vs H Q E, sp vs H Q E → vs.length = 1)
    (hp : ∀ vs H Q E, sp vs H Q E → (t_legals c p_is_legal p_must_pass p_turn_of) { nx := fun _ H' => Q .non H', rt := Q } (start ["table", "seat", "calls", "call"] vs) H) : FnAt P w c.K mg base (k + 1) "legals" ["table"] sp :=
  D.fn sc_legals (fun _ _ _ _ _ _ us hl => match us, hl with | [_], _ => rfl) len (t_legals c p_is_legal p_must_pass p_turn_of) hp (fun f cdv A outer s H E hr => by
    exact (pss_cons (ps_if (pt_cmpR op_isN1 (pv 0 rfl (Or.inr (Or.inl rfl))) pe_non (nomark _)) (pss_one (ps_ret (pe_lst (pa_cons (pe_gi T.i_NO_AUCTION rfl) pa_nil)))) pss_nil) (pss_cons (ps_if (pt_cmpR op_notN1 (pe_fld (pv 0 rfl (Or.inr (Or.inl rfl))) rfl) pe_non (nomark _)) (pss_one (ps_ret (pe_lst (pa_cons (pe_gi T.i_WAITS rfl) pa_nil)))) pss_nil) (pss_cons (ps_set (i := 1) sc_legals.nd rfl (Or.inr rfl) (pe_callF F_turn_of hr rfl (pa_cons (pv 0 rfl (Or.inr (Or.inl rfl))) pa_nil))) (pss_cons (ps_setLc (i := 2) (own := [(("call" : Str), 3)]) (g := (gName 3)) (tt := (tB (tCall p_is_legal [] E0 (tCons (tFld c.K (tVar 0) "made") (tCons (tVar 1) (tCons (tVar 3) tNil)))))) rfl sc_legals.nd rfl rfl (sw_true rfl rfl rfl (by decide +kernel)) (pi_range1 rfl T.b_range (pa_cons (pe_gi T.i_CALLS rfl) pa_nil)) (blkOk_by (N := ["table", "seat", "calls", "call"]) (sc := defScope s_legals) (by decide +kernel)) (fun _ _ _ _ _ => (pg_name (i := 3) sc_legals.nd rfl (Or.inl rfl))) (fun _ _ _ _ _ => (pts_one (pt_val (pe_callF F_is_legal hr rfl (pa_cons (pe_fld (pv 0) rfl) (pa_cons (pv 1) (pa_cons (pv 3 rfl (Or.inl rfl)) pa_nil))))))) (fun _ _ _ _ _ => (pv 3 rfl (Or.inl rfl)))) (pss_cons (ps_if (pt_val (pe_callF F_must_pass hr rfl (pa_cons (pv 0 rfl (Or.inr (Or.inl rfl))) (pa_cons (pv 1 rfl (Or.inr (Or.inl rfl))) pa_nil)))) (pss_one (ps_setLc (i := 2) (own := [(("call" : Str), 3)]) (g := (gName 3)) (tt := (tTest (tOp rEq (tVar 3) (tC (.int 0))))) rfl sc_legals.nd rfl rfl (sw_true rfl rfl rfl (by decide +kernel)) (pi_list (pv 2 rfl (Or.inl rfl))) (blkOk_by (N := ["table", "seat", "calls", "call"]) (sc := defScope s_legals) (by decide +kernel)) (fun _ _ _ _ _ => (pg_name (i := 3) sc_legals.nd rfl (Or.inl rfl))) (fun _ _ _ _ _ => (pts_one (pt_cmpR op_eq (pv 3 rfl (Or.inl rfl)) (pe_gi T.i_PASS rfl) (nomark _)))) (fun _ _ _ _ _ => (pv 3 rfl (Or.inl rfl))))) pss_nil) (pss_cons (ps_if (pt_cmpR op_notN1 (pe_fld (pv 0 rfl (Or.inr (Or.inl rfl))) rfl) pe_non (nomark _)) (pss_one (ps_setLc (i := 2) (own := [(("call" : Str), 3)]) (g := (gName 3)) (tt := (tOr (tTest (tOp rEq (tVar 3) (tC (.int 0)))) (tTest (tOp rGeI (tVar 3) (tC (.int 3)))))) rfl sc_legals.nd rfl rfl (sw_true rfl rfl rfl (by decide +kernel)) (pi_list (pv 2 rfl (Or.inl rfl))) (blkOk_by (N := ["table", "seat", "calls", "call"]) (sc := defScope s_legals) (by decide +kernel)) (fun _ _ _ _ _ => (pg_name (i := 3) sc_legals.nd rfl (Or.inl rfl))) (fun _ _ _ _ _ => (pts_one (PW.pt (pw_or (pt_cmpR op_eq (pv 3 rfl (Or.inl rfl)) (pe_gi T.i_PASS rfl) (nomark _)) (pw_or1 (pt_cmpR op_ge (pv 3 rfl (Or.inl rfl)) (pe_gi T.i_FIRST_BID rfl) (nomark _))))))) (fun _ _ _ _ _ => (pv 3 rfl (Or.inl rfl))))) pss_nil) (pss_one (ps_ret (pe_op op_cat (pe_lst (pa_cons pe_int pa_nil)) (pv 2 rfl (Or.inl rfl))))))))))))

abbrev s_contract : Stmt := top 102
theorem sc_contract : FnScope ["table", "made", "bid", "declarer"] ["table"] (defScope s_contract) := ⟨rfl, rfl, rfl, by decide +kernel, rfl, by decide +kernel, by decide +kernel⟩
def t_contract (c : Cn) (p_doubled p_first_to_name p_is_over p_last_bid p_partner_of p_side_of_last_bid : Sp) : TS :=
  (tSeq (tIfS (tTest (tOp rIsN (tVar 0) (tC .non))) (tRet (tLst (tCons (tC (.int (-3))) tNil))) tNext)
    (tSeq (tAsg (tFld c.K (tVar 0) "made") (gName 1))
    (tSeq (tIfS (tNot (tB (tCall p_is_over [] E0 (tCons (tVar 1) tNil)))) (tRet (tLst (tCons (tC (.int (-10))) tNil))) tNext)
    (tSeq (tAsg (tCall p_last_bid [] E0 (tCons (tVar 1) tNil)) (gName 2))
    (tSeq (tIfS (tTest (tOp rEq (tVar 2) (tC (.int (-1))))) (tRet (tLst (tCons (tC (.int 0)) tNil))) tNext)
    (tSeq (tAsg (tCall p_first_to_name [] E0 (tCons (tVar 1) (tCons (tCall p_side_of_last_bid [] E0 (tCons (tVar 1) tNil)) (tCons (tOp rModI (tVar 2) (tC (.int 5))) tNil)))) (gName 3))
    (tRet (tLst (tCons (tC (.int 0)) (tCons (tVar 2) (tCons (tCall p_doubled [] E0 (tCons (tVar 1) tNil)) (tCons (tVar 3) (tCons (tOp rModI (tOp rAddI (tVar 3) (tC (.int 1))) (tC (.int 4))) (tCons (tCall p_partner_of [] E0 (tCons (tVar 3) tNil)) tNil))))))))))))))
theorem d_contract {P : Program} {w : World} {c : Cn} {mg : Str → Option Value} {base : Heap} {k : Nat} {sp p_doubled p_first_to_name p_is_over p_last_bid p_partner_of p_side_of_last_bid : Sp} (T : Tx c mg) (D : DefAt c.K mg "contract" s_contract) (F_doubled : FnAt P w c.K mg base k "doubled" ["made"] p_doubled) (F_first_to_name : FnAt P w c.K mg base k "first_to_name" ["made", "side", "strain"] p_first_to_name) (F_is_over : FnAt P w c.K mg base k "is_over" ["made"] p_is_over) (F_last_bid : FnAt P w c.K mg base k "last_bid" ["made"] p_last_bid) (F_partner_of : FnAt P w c.K mg base k "partner_of" ["seat"] p_partner_of) (F_side_of_last_bid : FnAt P w c.K mg base k "side_of_last_bid" ["made"] p_side_of_last_bid)
    (len : ∀ vs H Q E, sp vs H Q E → vs.length = 1)
    (hp : ∀ vs H Q E, sp vs H Q E → (t_contract c p_doubled p_first_to_name p_is_over p_last_bid p_partner_of p_side_of_last_bid) { nx := fun _ H' => Q .non H', rt := Q } (start ["table", "made", "bid", "declarer"] vs) H) : FnAt P w c.K mg base (k + 1) "contract" ["table"] sp :=
  D.fn sc_contract (fun _ _ _ _ _ _ us hl => match us, hl with | [_], _ => rfl) len (t_contract c p_doubled p_first_to_name p_is_over p_last_bid p_partner_of p_side_of_last_bid) hp (fun f cdv A outer s H E hr => by
    exact (pss_cons (ps_if (pt_cmpR op_isN1 (pv 0 rfl (Or.inl rfl)) pe_non (nomark _)) (pss_one (ps_ret (pe_lst (pa_cons (pe_gi T.i_NO_AUCTION rfl) pa_nil)))) pss_nil) (pss_cons (ps_set (i := 1) sc_contract.nd rfl (Or.inl rfl) (pe_fld (pv 0 rfl (Or.inl rfl)) rfl)) (pss_cons (ps_if (pt_not (pt_val (pe_callF F_is_over hr rfl (pa_cons (pv 1 rfl (Or.inl rfl)) pa_nil)))) (pss_one (ps_ret (pe_lst (pa_cons (pe_gi T.i_NOT_OVER rfl) pa_nil)))) pss_nil) (pss_cons (ps_set (i := 2) sc_contract.nd rfl (Or.inl rfl) (pe_callF F_last_bid hr rfl (pa_cons (pv 1 rfl (Or.inl rfl)) pa_nil))) (pss_cons (ps_if (pt_cmpR op_eq (pv 2 rfl (Or.inl rfl)) (pe_gi T.i_NO_BID rfl) (nomark _)) (pss_one (ps_ret (pe_lst (pa_cons pe_int pa_nil)))) pss_nil) (pss_cons (ps_set (i := 3) sc_contract.nd rfl (Or.inl rfl) (pe_callF F_first_to_name hr rfl (pa_cons (pv 1 rfl (Or.inl rfl)) (pa_cons (pe_callF F_side_of_last_bid hr rfl (pa_cons (pv 1 rfl (Or.inl rfl)) pa_nil)) (pa_cons (pe_op op_mod (pv 2 rfl (Or.inl rfl)) (pe_gi T.i_STRAINS rfl)) pa_nil))))) (pss_one (ps_ret (pe_lst (pa_cons pe_int (pa_cons (pv 2 rfl (Or.inl rfl)) (pa_cons (pe_callF F_doubled hr rfl (pa_cons (pv 1 rfl (Or.inl rfl)) pa_nil)) (pa_cons (pv 3 rfl (Or.inl rfl)) (pa_cons (pe_op op_mod (pe_op op_add (pv 3 rfl (Or.inl rfl)) pe_int) pe_int) (pa_cons (pe_callF F_partner_of hr rfl (pa_cons (pv 3 rfl (Or.inl rfl)) pa_nil)) pa_nil))))))))))))))))

abbrev s_ways : Stmt := top 103
theorem sc_ways : FnScope ["table", "count"] ["table"] (defScope s_ways) := ⟨rfl, rfl, rfl, by decide +kernel, rfl, by decide +kernel, by decide +kernel⟩
def t_ways (c : Cn) (p_bytes_of p_position_of p_ways_from_bids p_ways_of : Sp) : TS :=
  (tSeq (tIfS (tTest (tOp rIsN (tVar 0) (tC .non))) (tRet (tLst (tCons (tC (.int (-3))) tNil))) tNext)
    (tSeq (tIfS (tTest (tOp rNotN (tFld c.K (tVar 0) "waiting") (tC .non))) (tRet (tLst (tCons (tC (.int (-5))) tNil))) tNext)
    (tSeq (tAsg (tCall p_ways_of [] E0 (tCons (tCall p_position_of [] E0 (tCons (tFld c.K (tVar 0) "dealer") (tCons (tFld c.K (tVar 0) "made") tNil))) (tCons (tCall p_ways_from_bids [] E0 tNil) tNil))) (gName 1))
    (tRet (tOp rCat (tLst (tCons (tC (.int 0)) tNil)) (tCall p_bytes_of [] E0 (tCons (tCB rStrOf (tCons (tVar 1) tNil)) tNil)))))))
theorem d_ways {P : Program} {w : World} {c : Cn} {mg : Str → Option Value} {base : Heap} {k : Nat} {sp p_bytes_of p_position_of p_ways_from_bids p_ways_of : Sp} (T : Tx c mg) (D : DefAt c.K mg "ways" s_ways) (F_bytes_of : FnAt P w c.K mg base k "bytes_of" ["text"] p_bytes_of) (F_position_of : FnAt P w c.K mg base k "position_of" ["dealer", "made"] p_position_of) (F_ways_from_bids : FnAt P w c.K mg base k "ways_from_bids" [] p_ways_from_bids) (F_ways_of : FnAt P w c.K mg base k "ways_of" ["position", "sums"] p_ways_of)
    (len : ∀ vs H Q E, sp vs H Q E → vs.length = 1)
    (hp : ∀ vs H Q E, sp vs H Q E → (t_ways c p_bytes_of p_position_of p_ways_from_bids p_ways_of) { nx := fun _ H' => Q .non H', rt := Q } (start ["table", "count"] vs) H) : FnAt P w c.K mg base (k + 1) "ways" ["table"] sp :=
  D.fn sc_ways (fun _ _ _ _ _ _ us hl => match us, hl with | [_], _ => rfl) len (t_ways c p_bytes_of p_position_of p_ways_from_bids p_ways_of) hp (fun f cdv A outer s H E hr => by
    exact (pss_cons (ps_if (pt_cmpR op_isN1 (pv 0 rfl (Or.inl rfl)) pe_non (nomark _)) (pss_one (ps_ret (pe_lst (pa_cons (pe_gi T.i_NO_AUCTION rfl) pa_nil)))) pss_nil) (pss_cons (ps_if (pt_cmpR op_notN1 (pe_fld (pv 0 rfl (Or.inl rfl)) rfl) pe_non (nomark _)) (pss_one (ps_ret (pe_lst (pa_cons (pe_gi T.i_WAITS rfl) pa_nil)))) pss_nil) (pss_cons (ps_set (i := 1) sc_ways.nd rfl (Or.inl rfl) (pe_callF F_ways_of hr rfl (pa_cons (pe_callF F_position_of hr rfl (pa_cons (pe_fld (pv 0 rfl (Or.inl rfl)) rfl) (pa_cons (pe_fld (pv 0 rfl (Or.inl rfl)) rfl) pa_nil))) (pa_cons (pe_callF0 F_ways_from_bids hr rfl) pa_nil)))) (pss_one (ps_ret (pe_op op_cat (pe_lst (pa_cons pe_int pa_nil)) (pe_callF F_bytes_of hr rfl (pa_cons (pe_callTy call_str_int rfl T.b_str (by decide +kernel) (pa_cons (pv 1 rfl (Or.inl rfl)) pa_nil)) pa_nil)))))))))

abbrev s_longest : Stmt := top 104
theorem sc_longest : FnScope ["table"] ["table"] (defScope s_longest) := ⟨rfl, rfl, rfl, by decide +kernel, rfl, by decide +kernel, by decide +kernel⟩
def t_longest (c : Cn) (p_longest_of p_position_of : Sp) : TS :=
  (tSeq (tIfS (tTest (tOp rIsN (tVar 0) (tC .non))) (tRet (tLst (tCons (tC (.int (-3))) tNil))) tNext)
    (tSeq (tIfS (tTest (tOp rNotN (tFld c.K (tVar 0) "waiting") (tC .non))) (tRet (tLst (tCons (tC (.int (-5))) tNil))) tNext)
    (tRet (tLst (tCons (tC (.int 0)) (tCons (tCall p_longest_of [] E0 (tCons (tCall p_position_of [] E0 (tCons (tFld c.K (tVar 0) "dealer") (tCons (tFld c.K (tVar 0) "made") tNil))) tNil)) tNil))))))
theorem d_longest {P : Program} {w : World} {c : Cn} {mg : Str → Option Value} {base : Heap} {k : Nat} {sp p_longest_of p_position_of : Sp} (T : Tx c mg) (D : DefAt c.K mg "longest" s_longest) (F_longest_of : FnAt P w c.K mg base k "longest_of" ["position"] p_longest_of) (F_position_of : FnAt P w c.K mg base k "position_of" ["dealer", "made"] p_position_of)
    (len : ∀ vs H Q E, sp vs H Q E → vs.length = 1)
    (hp : ∀ vs H Q E, sp vs H Q E → (t_longest c p_longest_of p_position_of) { nx := fun _ H' => Q .non H', rt := Q } (start ["table"] vs) H) : FnAt P w c.K mg base (k + 1) "longest" ["table"] sp :=
  D.fn sc_longest (fun _ _ _ _ _ _ us hl => match us, hl with | [_], _ => rfl) len (t_longest c p_longest_of p_position_of) hp (fun f cdv A outer s H E hr => by
    exact (pss_cons (ps_if (pt_cmpR op_isN1 (pv 0 rfl (Or.inl rfl)) pe_non (nomark _)) (pss_one (ps_ret (pe_lst (pa_cons (pe_gi T.i_NO_AUCTION rfl) pa_nil)))) pss_nil) (pss_cons (ps_if (pt_cmpR op_notN1 (pe_fld (pv 0 rfl (Or.inl rfl)) rfl) pe_non (nomark _)) (pss_one (ps_ret (pe_lst (pa_cons (pe_gi T.i_WAITS rfl) pa_nil)))) pss_nil) (pss_one (ps_ret (pe_lst (pa_cons pe_int (pa_cons (pe_callF F_longest_of hr rfl (pa_cons (pe_callF F_position_of hr rfl (pa_cons (pe_fld (pv 0 rfl (Or.inl rfl)) rfl) (pa_cons (pe_fld (pv 0 rfl (Or.inl rfl)) rfl) pa_nil))) pa_nil)) pa_nil))))))))

abbrev s_number : Stmt := top 105
theorem sc_number : FnScope ["table", "found"] ["table"] (defScope s_number) := ⟨rfl, rfl, rfl, by decide +kernel, rfl, by decide +kernel, by decide +kernel⟩
def t_number (c : Cn) (p_bytes_of p_is_over p_number_of : Sp) : TS :=
  (tSeq (tIfS (tTest (tOp rIsN (tVar 0) (tC .non))) (tRet (tLst (tCons (tC (.int (-3))) tNil))) tNext)
    (tSeq (tIfS (tNot (tB (tCall p_is_over [] E0 (tCons (tFld c.K (tVar 0) "made") tNil)))) (tRet (tLst (tCons (tC (.int (-10))) tNil))) tNext)
    (tSeq (tAsg (tCall p_number_of [] E0 (tCons (tFld c.K (tVar 0) "dealer") (tCons (tFld c.K (tVar 0) "made") tNil))) (gName 1))
    (tSeq (tIfS (tTest (tOp rIsN (tVar 1) (tC .non))) (tRet (tLst (tCons (tC (.int (-11))) tNil))) tNext)
    (tRet (tOp rCat (tLst (tCons (tC (.int 0)) tNil)) (tCall p_bytes_of [] E0 (tCons (tCB rStrOf (tCons (tVar 1) tNil)) tNil))))))))
theorem d_number {P : Program} {w : World} {c : Cn} {mg : Str → Option Value} {base : Heap} {k : Nat} {sp p_bytes_of p_is_over p_number_of : Sp} (T : Tx c mg) (D : DefAt c.K mg "number" s_number) (F_bytes_of : FnAt P w c.K mg base k "bytes_of" ["text"] p_bytes_of) (F_is_over : FnAt P w c.K mg base k "is_over" ["made"] p_is_over) (F_number_of : FnAt P w c.K mg base k "number_of" ["dealer", "made"] p_number_of)
    (len : ∀ vs H Q E, sp vs H Q E → vs.length = 1)
    (hp : ∀ vs H Q E, sp vs H Q E → (t_number c p_bytes_of p_is_over p_number_of) { nx := fun _ H' => Q .non H', rt := Q } (start ["table", "found"] vs) H) : FnAt P w c.K mg base (k + 1) "number" ["table"] sp :=
  D.fn sc_number (fun _ _ _ _ _ _ us hl => match us, hl with | [_], _ => rfl) len (t_number c p_bytes_of p_is_over p_number_of) hp (fun f cdv A outer s H E hr => by
    exact (pss_cons (ps_if (pt_cmpR op_isN1 (pv 0 rfl (Or.inl rfl)) pe_non (nomark _)) (pss_one (ps_ret (pe_lst (pa_cons (pe_gi T.i_NO_AUCTION rfl) pa_nil)))) pss_nil) (pss_cons (ps_if (pt_not (pt_val (pe_callF F_is_over hr rfl (pa_cons (pe_fld (pv 0 rfl (Or.inl rfl)) rfl) pa_nil)))) (pss_one (ps_ret (pe_lst (pa_cons (pe_gi T.i_NOT_OVER rfl) pa_nil)))) pss_nil) (pss_cons (ps_set (i := 1) sc_number.nd rfl (Or.inl rfl) (pe_callF F_number_of hr rfl (pa_cons (pe_fld (pv 0 rfl (Or.inl rfl)) rfl) (pa_cons (pe_fld (pv 0 rfl (Or.inl rfl)) rfl) pa_nil)))) (pss_cons (ps_if (pt_cmpR op_isN1 (pv 1 rfl (Or.inl rfl)) pe_non (nomark _)) (pss_one (ps_ret (pe_lst (pa_cons (pe_gi T.i_NOT_TURN_BY_TURN rfl) pa_nil)))) pss_nil) (pss_one (ps_ret (pe_op op_cat (pe_lst (pa_cons pe_int pa_nil)) (pe_callF F_bytes_of hr rfl (pa_cons (pe_callTy call_str_int rfl T.b_str (by decide +kernel) (pa_cons (pv 1 rfl (Or.inl rfl)) pa_nil)) pa_nil))))))))))

abbrev s_nth : Stmt := top 106
theorem sc_nth : FnScope ["dealer", "numbers", "value", "calls"] ["dealer", "numbers"] (defScope s_nth) := ⟨rfl, rfl, rfl, by decide +kernel, rfl, by decide +kernel, by decide +kernel⟩
def t_nth (c : Cn) (p_are_bytes p_auction_with_number p_bytes_of_auction p_value_of_numeral : Sp) : TS :=
  (tSeq (tIfS (tOr (tNot (tTest (tChain rLeI rLeI (tC (.int 0)) (tVar 0) (tC (.int 3))))) (tNot (tB (tCall p_are_bytes [] E0 (tCons (tVar 1) tNil))))) (tRet (tLst (tCons (tC (.int (-1))) tNil))) tNext)
    (tSeq (tAsg (tCall p_value_of_numeral [] E0 (tCons (tVar 1) tNil)) (gName 2))
    (tSeq (tIfS (tTest (tOp rIsN (tVar 2) (tC .non))) (tRet (tLst (tCons (tC (.int (-12))) tNil))) tNext)
    (tSeq (tAsg (tCall p_auction_with_number [] E0 (tCons (tVar 2) tNil)) (gName 3))
    (tSeq (tIfS (tTest (tOp rIsN (tVar 3) (tC .non))) (tRet (tLst (tCons (tC (.int (-13))) tNil))) tNext)
    (tRet (tOp rCat (tLst (tCons (tC (.int 0)) tNil)) (tCall p_bytes_of_auction [] E0 (tCons (tVar 3) tNil)))))))))
theorem d_nth {P : Program} {w : World} {c : Cn} {mg : Str → Option Value} {base : Heap} {k : Nat} {sp p_are_bytes p_auction_with_number p_bytes_of_auction p_value_of_numeral : Sp} (T : Tx c mg) (D : DefAt c.K mg "nth" s_nth) (F_are_bytes : FnAt P w c.K mg base k "are_bytes" ["numbers"] p_are_bytes) (F_auction_with_number : FnAt P w c.K mg base k "auction_with_number" ["number"] p_auction_with_number) (F_bytes_of_auction : FnAt P w c.K mg base k "bytes_of_auction" ["calls"] p_bytes_of_auction) (F_value_of_numeral : FnAt P w c.K mg base k "value_of_numeral" ["numbers"] p_value_of_numeral)
    (len : ∀ vs H Q E, sp vs H Q E → vs.length = 2)
    (hp : ∀ vs H Q E, sp vs H Q E → (t_nth c p_are_bytes p_auction_with_number p_bytes_of_auction p_value_of_numeral) { nx := fun _ H' => Q .non H', rt := Q } (start ["dealer", "numbers", "value", "calls"] vs) H) : FnAt P w c.K mg base (k + 1) "nth" ["dealer", "numbers"] sp :=
  D.fn sc_nth (fun _ _ _ _ _ _ us hl => match us, hl with | [_, _], _ => rfl) len (t_nth c p_are_bytes p_auction_with_number p_bytes_of_auction p_value_of_numeral) hp (fun f cdv A outer s H E hr => by
    exact (pss_cons (ps_if (PW.pt (pw_or (pt_not (pt_chain op_le op_le pe_int (pv 0 rfl (Or.inl rfl)) pe_int)) (pw_or1 (pt_not (pt_val (pe_callF F_are_bytes hr rfl (pa_cons (pv 1 rfl (Or.inl rfl)) pa_nil))))))) (pss_one (ps_ret (pe_lst (pa_cons (pe_gi T.i_OUT_OF_RANGE rfl) pa_nil)))) pss_nil) (pss_cons (ps_set (i := 2) sc_nth.nd rfl (Or.inl rfl) (pe_callF F_value_of_numeral hr rfl (pa_cons (pv 1 rfl (Or.inl rfl)) pa_nil))) (pss_cons (ps_if (pt_cmpR op_isN1 (pv 2 rfl (Or.inl rfl)) pe_non (nomark _)) (pss_one (ps_ret (pe_lst (pa_cons (pe_gi T.i_WRONG_TEXT rfl) pa_nil)))) pss_nil) (pss_cons (ps_set (i := 3) sc_nth.nd rfl (Or.inl rfl) (pe_callF F_auction_with_number hr rfl (pa_cons (pv 2 rfl (Or.inl rfl)) pa_nil))) (pss_cons (ps_if (pt_cmpR op_isN1 (pv 3 rfl (Or.inl rfl)) pe_non (nomark _)) (pss_one (ps_ret (pe_lst (pa_cons (pe_gi T.i_NO_SUCH_AUCTION rfl) pa_nil)))) pss_nil) (pss_one (ps_ret (pe_op op_cat (pe_lst (pa_cons pe_int pa_nil)) (pe_callF F_bytes_of_auction hr rfl (pa_cons (pv 3 rfl (Or.inl rfl)) pa_nil)))))))))))

abbrev s_auction_text : Stmt := top 107
theorem sc_auction_text : FnScope ["table", "seat", "call"] ["table"] (defScope s_auction_text) := ⟨rfl, rfl, rfl, by decide +kernel, rfl, by decide +kernel, by decide +kernel⟩
def t_auction_text (c : Cn) (p_bytes_of_auction : Sp) : TS :=
  (tSeq (tIfS (tTest (tOp rIsN (tVar 0) (tC .non))) (tRet (tLst (tCons (tC (.int (-3))) tNil))) tNext)
    (tRet (tOp rCat (tLst (tCons (tC (.int 0)) tNil)) (tCall p_bytes_of_auction [] E0 (tCons (tLc (iList c.K (tFld c.K (tVar 0) "made")) (gTup c.K 2 (gCons (gName 1) (gCons (gName 2) gNil))) tYes (tVar 2) (List.map (fun (q : Str × Nat) => q.2) [(("seat" : Str), 1), (("call" : Str), 2)])) tNil)))))
theorem d_auction_text {P : Program} {w : World} {c : Cn} {mg : Str → Option Value} {base : Heap} {k : Nat} {sp p_bytes_of_auction : Sp} (T : Tx c mg) (D : DefAt c.K mg "auction_text" s_auction_text) (F_bytes_of_auction : FnAt P w c.K mg base k "bytes_of_auction" ["calls"] p_bytes_of_auction)
    (len : ∀ vs H Q E, sp vs H Q E → vs.length = 1)
    (hp : ∀ vs H Q E, sp vs H Q E → (t_auction_text c p_bytes_of_auction) { nx := fun _ H' => Q .non H', rt := Q } (start ["table", "seat", "call"] vs) H) : FnAt P w c.K mg base (k + 1) "auction_text" ["table"] sp :=
  D.fn sc_auction_text (fun _ _ _ _ _ _ us hl => match us, hl with | [_], _ => rfl) len (t_auction_text c p_bytes_of_auction) hp (fun f cdv A outer s H E hr => by
    exact (pss_cons (ps_if (pt_cmpR op_isN1 (pv 0 rfl (Or.inl rfl)) pe_non (nomark _)) (pss_one (ps_ret (pe_lst (pa_cons (pe_gi T.i_NO_AUCTION rfl) pa_nil)))) pss_nil) (pss_one (ps_ret (pe_op op_cat (pe_lst (pa_cons pe_int pa_nil)) (pe_callF F_bytes_of_auction hr rfl (pa_cons (pe_lc (own := [(("seat" : Str), 1), (("call" : Str), 2)]) (g := (gTup c.K 2 (gCons (gName 1) (gCons (gName 2) gNil)))) (tt := tYes) rfl sc_auction_text.nd (pi_list (pe_fld (pv 0 rfl (Or.inl rfl)) rfl)) (blkOk_by (N := ["table", "seat", "call"]) (sc := defScope s_auction_text) (by decide +kernel)) (fun _ _ _ _ _ => (pg_tup rfl (pgs_cons (pg_name (i := 1) sc_auction_text.nd rfl (Or.inl rfl)) (pgs_cons (pg_name (i := 2) sc_auction_text.nd rfl (Or.inl rfl)) pgs_nil)))) (fun _ _ _ _ _ => pts_nil) (fun _ _ _ _ _ => (pv 2 rfl (Or.inl rfl)))) pa_nil)))))))

abbrev s_calls_made : Stmt := top 108
theorem sc_calls_made : FnScope ["table", "answer", "seat", "call"] ["table"] (defScope s_calls_made) := ⟨rfl, rfl, rfl, by decide +kernel, rfl, by decide +kernel, by decide +kernel⟩
def t_calls_made (c : Cn) : TS :=
  (tSeq (tIfS (tTest (tOp rIsN (tVar 0) (tC .non))) (tRet (tLst (tCons (tC (.int (-3))) tNil))) tNext)
    (tSeq (tAsg (tLst (tCons (tC (.int 0)) tNil)) (gName 1))
    (tSeq (tFor (iList c.K (tFld c.K (tVar 0) "made")) (gTup c.K 2 (gCons (gName 2) (gCons (gName 3) gNil))) (tDrop (tBM c.K "list" rExtend (tVar 1) (tCons (tLst (tCons (tVar 2) (tCons (tVar 3) tNil))) tNil))))
    (tRet (tVar 1)))))
theorem d_calls_made {P : Program} {w : World} {c : Cn} {mg : Str → Option Value} {base : Heap} {k : Nat} {sp  : Sp} (T : Tx c mg) (D : DefAt c.K mg "calls_made" s_calls_made) 
    (len : ∀ vs H Q E, sp vs H Q E → vs.length = 1)
    (hp : ∀ vs H Q E, sp vs H Q E → (t_calls_made c ) { nx := fun _ H' => Q .non H', rt := Q } (start ["table", "answer", "seat", "call"] vs) H) : FnAt P w c.K mg base (k + 1) "calls_made" ["table"] sp :=
  D.fn sc_calls_made (fun _ _ _ _ _ _ us hl => match us, hl with | [_], _ => rfl) len (t_calls_made c ) hp (fun f cdv A outer s H E hr => by
    exact (pss_cons (ps_if (pt_cmpR op_isN1 (pv 0 rfl (Or.inl rfl)) pe_non (nomark _)) (pss_one (ps_ret (pe_lst (pa_cons (pe_gi T.i_NO_AUCTION rfl) pa_nil)))) pss_nil) (pss_cons (ps_set (i := 1) sc_calls_made.nd rfl (Or.inl rfl) (pe_lst (pa_cons pe_int pa_nil))) (pss_cons (ps_for PassesOwn.never rfl (pi_list (pe_fld (pv 0 rfl (Or.inl rfl)) rfl)) (pg_tup rfl (pgs_cons (pg_name (i := 2) sc_calls_made.nd rfl (Or.inl rfl)) (pgs_cons (pg_name (i := 3) sc_calls_made.nd rfl (Or.inl rfl)) pgs_nil))) (pss_one (ps_expr (pe_bm PySem.F.plainAttrs_list PySem.F.slot_list_extend PySem.F.type_list_extend mt_extend (pv 1 rfl (Or.inl rfl)) (pa_cons (pe_lst (pa_cons (pv 2 rfl (Or.inl rfl)) (pa_cons (pv 3 rfl (Or.inl rfl)) pa_nil))) pa_nil))))) (pss_one (ps_ret (pv 1 rfl (Or.inl rfl))))))))

abbrev s_named : Stmt := top 109
theorem sc_named : FnScope ["table", "side", "strain", "seat"] ["table", "side", "strain"] (defScope s_named) := ⟨rfl, rfl, rfl, by decide +kernel, rfl, by decide +kernel, by decide +kernel⟩
def t_named (c : Cn) (p_first_to_name : Sp) : TS :=
  (tSeq (tIfS (tOr (tNot (tTest (tChain rLeI rLeI (tC (.int 0)) (tVar 1) (tC (.int 1))))) (tNot (tTest (tChain rLeI rLtI (tC (.int 0)) (tVar 2) (tC (.int 5)))))) (tRet (tLst (tCons (tC (.int (-1))) tNil))) tNext)
    (tSeq (tIfS (tTest (tOp rIsN (tVar 0) (tC .non))) (tRet (tLst (tCons (tC (.int (-3))) tNil))) tNext)
    (tSeq (tAsg (tCall p_first_to_name [] E0 (tCons (tFld c.K (tVar 0) "made") (tCons (tVar 1) (tCons (tVar 2) tNil)))) (gName 3))
    (tSeq (tIfS (tTest (tOp rIsN (tVar 3) (tC .non))) (tRet (tLst (tCons (tC (.int 0)) (tCons (tC (.int 0)) tNil)))) tNext)
    (tRet (tLst (tCons (tC (.int 0)) (tCons (tOp rAddI (tVar 3) (tC (.int 1))) tNil))))))))
theorem d_named {P : Program} {w : World} {c : Cn} {mg : Str → Option Value} {base : Heap} {k : Nat} {sp p_first_to_name : Sp} (T : Tx c mg) (D : DefAt c.K mg "named" s_named) (F_first_to_name : FnAt P w c.K mg base k "first_to_name" ["made", "side", "strain"] p_first_to_name)
    (len : ∀ vs H Q E, sp vs H Q E → vs.length = 3)
    (hp : ∀ vs H Q E, sp vs H Q E → (t_named c p_first_to_name) { nx := fun _ H' => Q .non H', rt := Q } (start ["table", "side", "strain", "seat"] vs) H) : FnAt P w c.K mg base (k + 1) "named" ["table", "side", "strain"] sp :=
  D.fn sc_named (fun _ _ _ _ _ _ us hl => match us, hl with | [_, _, _], _ => rfl) len (t_named c p_first_to_name) hp (fun f cdv A outer s H E hr => by
    exact (pss_cons (ps_if (PW.pt (pw_or (pt_not (pt_chain op_le op_le pe_int (pv 1 rfl (Or.inl rfl)) pe_int)) (pw_or1 (pt_not (pt_chain op_le op_lt pe_int (pv 2 rfl (Or.inl rfl)) (pe_gi T.i_STRAINS rfl)))))) (pss_one (ps_ret (pe_lst (pa_cons (pe_gi T.i_OUT_OF_RANGE rfl) pa_nil)))) pss_nil) (pss_cons (ps_if (pt_cmpR op_isN1 (pv 0 rfl (Or.inl rfl)) pe_non (nomark _)) (pss_one (ps_ret (pe_lst (pa_cons (pe_gi T.i_NO_AUCTION rfl) pa_nil)))) pss_nil) (pss_cons (ps_set (i := 3) sc_named.nd rfl (Or.inl rfl) (pe_callF F_first_to_name hr rfl (pa_cons (pe_fld (pv 0 rfl (Or.inl rfl)) rfl) (pa_cons (pv 1 rfl (Or.inl rfl)) (pa_cons (pv 2 rfl (Or.inl rfl)) pa_nil))))) (pss_cons (ps_if (pt_cmpR op_isN1 (pv 3 rfl (Or.inl rfl)) pe_non (nomark _)) (pss_one (ps_ret (pe_lst (pa_cons pe_int (pa_cons pe_int pa_nil))))) pss_nil) (pss_one (ps_ret (pe_lst (pa_cons pe_int (pa_cons (pe_op op_add (pv 3 rfl (Or.inl rfl)) pe_int) pa_nil))))))))))

abbrev s_answers : Stmt := top 112
theorem sc_answers : FnScope ["calls", "session", "answered", "place", "wholes", "row_count", "call", "row", "size", "answer"] ["calls"] (defScope s_answers) := ⟨rfl, rfl, rfl, by decide +kernel, rfl, by decide +kernel, by decide +kernel⟩
def t_answers (c : Cn) (p_answer_of q_Session : Sp) (aS : Addr) : TS :=
  (tSeq (tAsg (tMake c.CS q_Session [] E0 tNil) (gName 1))
    (tSeq (tAsg (tLst tNil) (gName 2))
    (tSeq (tAsg (tC (.int 0)) (gName 3))
    (tSeq (tWhile (tTest (tOp rLtI (tVar 3) (tCB (rLenS c.K) (tCons (tVar 0) tNil)))) (tSeq (tAsg (tOp (rIxT c.K) (tC (.ref aS)) (tOp (rIxL c.K) (tVar 0) (tVar 3))) (gTup c.K 2 (gCons (gName 4) (gCons (gName 5) gNil))))
    (tSeq (tAsg (tSl (rSlL c.K) (tVar 0) (tPart (tVar 3)) (tPart (tOp rAddI (tOp rAddI (tVar 3) (tC (.int 1))) (tVar 4)))) (gName 6))
    (tSeq (tAsg (tOp rAddI (tOp rAddI (tVar 3) (tC (.int 1))) (tVar 4)) (gName 3))
    (tSeq (tAsg (tLst tNil) (gName 7))
    (tSeq (tIfS (tTest (tOp rEq (tVar 5) (tC (.int 1)))) (tSeq (tAsg (tOp (rIxL c.K) (tVar 0) (tVar 3)) (gName 8))
    (tSeq (tAsg (tSl (rSlL c.K) (tVar 0) (tPart (tOp rAddI (tVar 3) (tC (.int 1)))) (tPart (tOp rAddI (tOp rAddI (tVar 3) (tC (.int 1))) (tVar 8)))) (gName 7))
    (tAsg (tOp rAddI (tOp rAddI (tVar 3) (tC (.int 1))) (tVar 8)) (gName 3)))) tNext)
    (tSeq (tAsg (tCall p_answer_of [] E0 (tCons (tVar 1) (tCons (tVar 6) (tCons (tVar 7) tNil)))) (gName 9))
    (tSeq (tDrop (tBM c.K "list" rAppend (tVar 2) (tCons (tCB (rLenS c.K) (tCons (tVar 9) tNil)) tNil)))
    (tDrop (tBM c.K "list" rExtend (tVar 2) (tCons (tVar 9) tNil)))))))))))
    (tRet (tVar 2))))))
theorem d_answers {P : Program} {w : World} {c : Cn} {mg : Str → Option Value} {base : Heap} {k : Nat} {sp p_answer_of q_Session : Sp} {aS : Addr} (T : Tx c mg) (hS : mg "SHAPES" = some (.ref aS)) (D : DefAt c.K mg "answers" s_answers) (F_answer_of : FnAt P w c.K mg base (k + 1) "answer_of" ["session", "call", "row"] p_answer_of) (M_Session : MkAt P w c.K mg base k "Session" c.CS ["self"] q_Session)
    (len : ∀ vs H Q E, sp vs H Q E → vs.length = 1)
    (hp : ∀ vs H Q E, sp vs H Q E → (t_answers c p_answer_of q_Session aS) { nx := fun _ H' => Q .non H', rt := Q } (start ["calls", "session", "answered", "place", "wholes", "row_count", "call", "row", "size", "answer"] vs) H) : FnAt P w c.K mg base (k + 2) "answers" ["calls"] sp :=
  D.fn sc_answers (fun _ _ _ _ _ _ us hl => match us, hl with | [_], _ => rfl) len (t_answers c p_answer_of q_Session aS) hp (fun f cdv A outer s H E hr => by
    exact (pss_cons (ps_set (i := 1) sc_answers.nd rfl (Or.inl rfl) (pe_makeF0 M_Session hr rfl)) (pss_cons (ps_set (i := 2) sc_answers.nd rfl (Or.inl rfl) (pe_lst pa_nil)) (pss_cons (ps_set (i := 3) sc_answers.nd rfl (Or.inl rfl) pe_int) (pss_cons (ps_while PassesOwn.never (pt_cmpR op_lt (pv 3 rfl (Or.inl rfl)) (pe_callB call_len_seq rfl T.b_len (by decide +kernel) (pa_cons (pv 0 rfl (Or.inl rfl)) pa_nil)) (nomark _)) (pss_cons (ps_asg (pe_ix ix_tup (pe_gr hS rfl) (pe_ix ix_list (pv 0 rfl (Or.inl rfl)) (pv 3 rfl (Or.inl rfl)) (fun _ _ => rfl)) (fun _ _ => rfl)) (pg_tup rfl (pgs_cons (pg_name (i := 4) sc_answers.nd rfl (Or.inl rfl)) (pgs_cons (pg_name (i := 5) sc_answers.nd rfl (Or.inl rfl)) pgs_nil)))) (pss_cons (ps_set (i := 6) sc_answers.nd rfl (Or.inl rfl) (pe_slice sl_list (pv 0 rfl (Or.inl rfl)) (po_some (pv 3 rfl (Or.inl rfl))) (po_some (pe_op op_add (pe_op op_add (pv 3 rfl (Or.inl rfl)) pe_int) (pv 4 rfl (Or.inl rfl)))))) (pss_cons (ps_set (i := 3) sc_answers.nd rfl (Or.inl rfl) (pe_op op_add (pe_op op_add (pv 3 rfl (Or.inl rfl)) pe_int) (pv 4 rfl (Or.inl rfl)))) (pss_cons (ps_set (i := 7) sc_answers.nd rfl (Or.inl rfl) (pe_lst pa_nil)) (pss_cons (ps_if (pt_cmpR op_eq (pv 5 rfl (Or.inl rfl)) pe_int (nomark _)) (pss_cons (ps_set (i := 8) sc_answers.nd rfl (Or.inl rfl) (pe_ix ix_list (pv 0 rfl (Or.inl rfl)) (pv 3 rfl (Or.inl rfl)) (fun _ _ => rfl))) (pss_cons (ps_set (i := 7) sc_answers.nd rfl (Or.inl rfl) (pe_slice sl_list (pv 0 rfl (Or.inl rfl)) (po_some (pe_op op_add (pv 3 rfl (Or.inl rfl)) pe_int)) (po_some (pe_op op_add (pe_op op_add (pv 3 rfl (Or.inl rfl)) pe_int) (pv 8 rfl (Or.inl rfl)))))) (pss_one (ps_set (i := 3) sc_answers.nd rfl (Or.inl rfl) (pe_op op_add (pe_op op_add (pv 3 rfl (Or.inl rfl)) pe_int) (pv 8 rfl (Or.inl rfl))))))) pss_nil) (pss_cons (ps_set (i := 9) sc_answers.nd rfl (Or.inl rfl) (pe_callF F_answer_of hr rfl (pa_cons (pv 1 rfl (Or.inl rfl)) (pa_cons (pv 6 rfl (Or.inl rfl)) (pa_cons (pv 7 rfl (Or.inl rfl)) pa_nil))))) (pss_cons (ps_expr (pe_bm PySem.F.plainAttrs_list PySem.F.slot_list_append PySem.F.type_list_append mt_append (pv 2 rfl (Or.inl rfl)) (pa_cons (pe_callB call_len_seq rfl T.b_len (by decide +kernel) (pa_cons (pv 9 rfl (Or.inl rfl)) pa_nil)) pa_nil))) (pss_one (ps_expr (pe_bm PySem.F.plainAttrs_list PySem.F.slot_list_extend PySem.F.type_list_extend mt_extend (pv 2 rfl (Or.inl rfl)) (pa_cons (pv 9 rfl (Or.inl rfl)) pa_nil)))))))))))) (pss_one (ps_ret (pv 2 rfl (Or.inl rfl)))))))))

abbrev s_answer_of : Stmt := top 113
theorem sc_answer_of : FnScope ["session", "call", "row", "place"] ["session", "call", "row"] (defScope s_answer_of) := ⟨rfl, rfl, rfl, by decide +kernel, rfl, by decide +kernel, by decide +kernel⟩
def t_answer_of (c : Cn) (p_asked_answer p_board p_call_at_table p_deal p_decide p_look p_named p_nth p_read_auction p_undo : Sp) : TS :=
  (tSeq (tAsg (tOp (rIxL c.K) (tVar 1) (tC (.int 0))) (gName 3))
    (tSeq (tIfS (tTest (tOp rEq (tVar 3) (tC (.int 0)))) (tRet (tCall p_deal [] E0 (tCons (tVar 0) (tCons (tOp (rIxL c.K) (tVar 1) (tC (.int 1))) (tCons (tOp (rIxL c.K) (tVar 1) (tC (.int 2))) tNil))))) tNext)
    (tSeq (tIfS (tTest (tOp rEq (tVar 3) (tC (.int 1)))) (tRet (tCall p_board [] E0 (tCons (tVar 0) (tCons (tOp (rIxL c.K) (tVar 1) (tC (.int 1))) tNil)))) tNext)
    (tSeq (tIfS (tTest (tOp rEq (tVar 3) (tC (.int 2)))) (tRet (tCall p_call_at_table [] E0 (tCons (tVar 0) (tCons (tOp (rIxL c.K) (tVar 1) (tC (.int 1))) (tCons (tOp (rIxL c.K) (tVar 1) (tC (.int 2))) tNil))))) tNext)
    (tSeq (tIfS (tTest (tOp rEq (tVar 3) (tC (.int 3)))) (tRet (tCall p_decide [] E0 (tCons (tVar 0) (tCons (tOp (rIxL c.K) (tVar 1) (tC (.int 1))) tNil)))) tNext)
    (tSeq (tIfS (tTest (tOp rEq (tVar 3) (tC (.int 4)))) (tRet (tCall p_undo [] E0 (tCons (tVar 0) (tCons (tOp (rIxL c.K) (tVar 1) (tC (.int 1))) tNil)))) tNext)
    (tSeq (tIfS (tTest (tOp rEq (tVar 3) (tC (.int 11)))) (tRet (tCall p_nth [] E0 (tCons (tOp (rIxL c.K) (tVar 1) (tC (.int 1))) (tCons (tVar 2) tNil)))) tNext)
    (tSeq (tIfS (tTest (tOp rEq (tVar 3) (tC (.int 13)))) (tRet (tCall p_look [] E0 (tCons (tOp (rIxL c.K) (tVar 1) (tC (.int 1))) (tCons (tVar 2) tNil)))) tNext)
    (tSeq (tIfS (tTest (tOp rEq (tVar 3) (tC (.int 14)))) (tRet (tCall p_read_auction [] E0 (tCons (tVar 0) (tCons (tOp (rIxL c.K) (tVar 1) (tC (.int 1))) (tCons (tOp (rIxL c.K) (tVar 1) (tC (.int 2))) (tCons (tVar 2) tNil)))))) tNext)
    (tSeq (tIfS (tTest (tOp rEq (tVar 3) (tC (.int 16)))) (tRet (tCall p_named [] E0 (tCons (tFld c.K (tVar 0) "table") (tCons (tOp (rIxL c.K) (tVar 1) (tC (.int 1))) (tCons (tOp (rIxL c.K) (tVar 1) (tC (.int 2))) tNil))))) tNext)
    (tRet (tCall p_asked_answer [] E0 (tCons (tFld c.K (tVar 0) "table") (tCons (tVar 3) tNil))))))))))))))
theorem d_answer_of {P : Program} {w : World} {c : Cn} {mg : Str → Option Value} {base : Heap} {k : Nat} {sp p_asked_answer p_board p_call_at_table p_deal p_decide p_look p_named p_nth p_read_auction p_undo : Sp} (T : Tx c mg) (D : DefAt c.K mg "answer_of" s_answer_of) (F_asked_answer : FnAt P w c.K mg base k "asked_answer" ["table", "place"] p_asked_answer) (F_board : FnAt P w c.K mg base k "board" ["session", "number"] p_board) (F_call_at_table : FnAt P w c.K mg base k "call_at_table" ["session", "seat", "call"] p_call_at_table) (F_deal : FnAt P w c.K mg base k "deal" ["session", "dealer", "vulnerability"] p_deal) (F_decide : FnAt P w c.K mg base k "decide" ["session", "answer"] p_decide) (F_look : FnAt P w c.K mg base k "look" ["dealer", "numbers"] p_look) (F_named : FnAt P w c.K mg base k "named" ["table", "side", "strain"] p_named) (F_nth : FnAt P w c.K mg base k "nth" ["dealer", "numbers"] p_nth) (F_read_auction : FnAt P w c.K mg base k "read_auction" ["session", "dealer", "vulnerability", "numbers"] p_read_auction) (F_undo : FnAt P w c.K mg base k "undo" ["session", "count"] p_undo)
    (len : ∀ vs H Q E, sp vs H Q E → vs.length = 3)
    (hp : ∀ vs H Q E, sp vs H Q E → (t_answer_of c p_asked_answer p_board p_call_at_table p_deal p_decide p_look p_named p_nth p_read_auction p_undo) { nx := fun _ H' => Q .non H', rt := Q } (start ["session", "call", "row", "place"] vs) H) : FnAt P w c.K mg base (k + 1) "answer_of" ["session", "call", "row"] sp :=
  D.fn sc_answer_of (fun _ _ _ _ _ _ us hl => match us, hl with | [_, _, _], _ => rfl) len (t_answer_of c p_asked_answer p_board p_call_at_table p_deal p_decide p_look p_named p_nth p_read_auction p_undo) hp (fun f cdv A outer s H E hr => by
    exact (pss_cons (ps_set (i := 3) sc_answer_of.nd rfl (Or.inl rfl) (pe_ix ix_list (pv 1 rfl (Or.inl rfl)) pe_int (fun _ _ => rfl))) (pss_cons (ps_if (pt_cmpR op_eq (pv 3 rfl (Or.inl rfl)) pe_int (nomark _)) (pss_one (ps_ret (pe_callF F_deal hr rfl (pa_cons (pv 0 rfl (Or.inl rfl)) (pa_cons (pe_ix ix_list (pv 1 rfl (Or.inl rfl)) pe_int (fun _ _ => rfl)) (pa_cons (pe_ix ix_list (pv 1 rfl (Or.inl rfl)) pe_int (fun _ _ => rfl)) pa_nil)))))) pss_nil) (pss_cons (ps_if (pt_cmpR op_eq (pv 3 rfl (Or.inl rfl)) pe_int (nomark _)) (pss_one (ps_ret (pe_callF F_board hr rfl (pa_cons (pv 0 rfl (Or.inl rfl)) (pa_cons (pe_ix ix_list (pv 1 rfl (Or.inl rfl)) pe_int (fun _ _ => rfl)) pa_nil))))) pss_nil) (pss_cons (ps_if (pt_cmpR op_eq (pv 3 rfl (Or.inl rfl)) pe_int (nomark _)) (pss_one (ps_ret (pe_callF F_call_at_table hr rfl (pa_cons (pv 0 rfl (Or.inl rfl)) (pa_cons (pe_ix ix_list (pv 1 rfl (Or.inl rfl)) pe_int (fun _ _ => rfl)) (pa_cons (pe_ix ix_list (pv 1 rfl (Or.inl rfl)) pe_int (fun _ _ => rfl)) pa_nil)))))) pss_nil) (pss_cons (ps_if (pt_cmpR op_eq (pv 3 rfl (Or.inl rfl)) pe_int (nomark _)) (pss_one (ps_ret (pe_callF F_decide hr rfl (pa_cons (pv 0 rfl (Or.inl rfl)) (pa_cons (pe_ix ix_list (pv 1 rfl (Or.inl rfl)) pe_int (fun _ _ => rfl)) pa_nil))))) pss_nil) (pss_cons (ps_if (pt_cmpR op_eq (pv 3 rfl (Or.inl rfl)) pe_int (nomark _)) (pss_one (ps_ret (pe_callF F_undo hr rfl (pa_cons (pv 0 rfl (Or.inl rfl)) (pa_cons (pe_ix ix_list (pv 1 rfl (Or.inl rfl)) pe_int (fun _ _ => rfl)) pa_nil))))) pss_nil) (pss_cons (ps_if (pt_cmpR op_eq (pv 3 rfl (Or.inl rfl)) pe_int (nomark _)) (pss_one (ps_ret (pe_callF F_nth hr rfl (pa_cons (pe_ix ix_list (pv 1 rfl (Or.inl rfl)) pe_int (fun _ _ => rfl)) (pa_cons (pv 2 rfl (Or.inl rfl)) pa_nil))))) pss_nil) (pss_cons (ps_if (pt_cmpR op_eq (pv 3 rfl (Or.inl rfl)) pe_int (nomark _)) (pss_one (ps_ret (pe_callF F_look hr rfl (pa_cons (pe_ix ix_list (pv 1 rfl (Or.inl rfl)) pe_int (fun _ _ => rfl)) (pa_cons (pv 2 rfl (Or.inl rfl)) pa_nil))))) pss_nil) (pss_cons (ps_if (pt_cmpR op_eq (pv 3 rfl (Or.inl rfl)) pe_int (nomark _)) (pss_one (ps_ret (pe_callF F_read_auction hr rfl (pa_cons (pv 0 rfl (Or.inl rfl)) (pa_cons (pe_ix ix_list (pv 1 rfl (Or.inl rfl)) pe_int (fun _ _ => rfl)) (pa_cons (pe_ix ix_list (pv 1 rfl (Or.inl rfl)) pe_int (fun _ _ => rfl)) (pa_cons (pv 2 rfl (Or.inl rfl)) pa_nil))))))) pss_nil) (pss_cons (ps_if (pt_cmpR op_eq (pv 3 rfl (Or.inl rfl)) pe_int (nomark _)) (pss_one (ps_ret (pe_callF F_named hr rfl (pa_cons (pe_fld (pv 0 rfl (Or.inl rfl)) rfl) (pa_cons (pe_ix ix_list (pv 1 rfl (Or.inl rfl)) pe_int (fun _ _ => rfl)) (pa_cons (pe_ix ix_list (pv 1 rfl (Or.inl rfl)) pe_int (fun _ _ => rfl)) pa_nil)))))) pss_nil) (pss_one (ps_ret (pe_callF F_asked_answer hr rfl (pa_cons (pe_fld (pv 0 rfl (Or.inl rfl)) rfl) (pa_cons (pv 3 rfl (Or.inl rfl)) pa_nil))))))))))))))))

abbrev s_asked_answer : Stmt := top 114
theorem sc_asked_answer : FnScope ["table", "place"] ["table", "place"] (defScope s_asked_answer) := ⟨rfl, rfl, rfl, by decide +kernel, rfl, by decide +kernel, by decide +kernel⟩
def t_asked_answer (c : Cn) (p_auction_text p_calls_made p_contract p_legals p_longest p_number p_show_table p_ways : Sp) : TS :=
  (tSeq (tIfS (tTest (tOp rEq (tVar 1) (tC (.int 5)))) (tRet (tCall p_show_table [] E0 (tCons (tVar 0) tNil))) tNext)
    (tSeq (tIfS (tTest (tOp rEq (tVar 1) (tC (.int 6)))) (tRet (tCall p_legals [] E0 (tCons (tVar 0) tNil))) tNext)
    (tSeq (tIfS (tTest (tOp rEq (tVar 1) (tC (.int 7)))) (tRet (tCall p_contract [] E0 (tCons (tVar 0) tNil))) tNext)
    (tSeq (tIfS (tTest (tOp rEq (tVar 1) (tC (.int 8)))) (tRet (tCall p_ways [] E0 (tCons (tVar 0) tNil))) tNext)
    (tSeq (tIfS (tTest (tOp rEq (tVar 1) (tC (.int 9)))) (tRet (tCall p_longest [] E0 (tCons (tVar 0) tNil))) tNext)
    (tSeq (tIfS (tTest (tOp rEq (tVar 1) (tC (.int 10)))) (tRet (tCall p_number [] E0 (tCons (tVar 0) tNil))) tNext)
    (tSeq (tIfS (tTest (tOp rEq (tVar 1) (tC (.int 12)))) (tRet (tCall p_auction_text [] E0 (tCons (tVar 0) tNil))) tNext)
    (tRet (tCall p_calls_made [] E0 (tCons (tVar 0) tNil))))))))))
theorem d_asked_answer {P : Program} {w : World} {c : Cn} {mg : Str → Option Value} {base : Heap} {k : Nat} {sp p_auction_text p_calls_made p_contract p_legals p_longest p_number p_show_table p_ways : Sp} (T : Tx c mg) (D : DefAt c.K mg "asked_answer" s_asked_answer) (F_auction_text : FnAt P w c.K mg base k "auction_text" ["table"] p_auction_text) (F_calls_made : FnAt P w c.K mg base k "calls_made" ["table"] p_calls_made) (F_contract : FnAt P w c.K mg base k "contract" ["table"] p_contract) (F_legals : FnAt P w c.K mg base k "legals" ["table"] p_legals) (F_longest : FnAt P w c.K mg base k "longest" ["table"] p_longest) (F_number : FnAt P w c.K mg base k "number" ["table"] p_number) (F_show_table : FnAt P w c.K mg base k "show_table" ["table"] p_show_table) (F_ways : FnAt P w c.K mg base k "ways" ["table"] p_ways)
    (len : ∀ vs H Q E, sp vs H Q E → vs.length = 2)
    (hp : ∀ vs H Q E, sp vs H Q E → (t_asked_answer c p_auction_text p_calls_made p_contract p_legals p_longest p_number p_show_table p_ways) { nx := fun _ H' => Q .non H', rt := Q } (start ["table", "place"] vs) H) : FnAt P w c.K mg base (k + 1) "asked_answer" ["table", "place"] sp :=
  D.fn sc_asked_answer (fun _ _ _ _ _ _ us hl => match us, hl with | [_, _], _ => rfl) len (t_asked_answer c p_auction_text p_calls_made p_contract p_legals p_longest p_number p_show_table p_ways) hp (fun f cdv A outer s H E hr => by
    exact (pss_cons (ps_if (pt_cmpR op_eq (pv 1 rfl (Or.inl rfl)) pe_int (nomark _)) (pss_one (ps_ret (pe_callF F_show_table hr rfl (pa_cons (pv 0 rfl (Or.inl rfl)) pa_nil)))) pss_nil) (pss_cons (ps_if (pt_cmpR op_eq (pv 1 rfl (Or.inl rfl)) pe_int (nomark _)) (pss_one (ps_ret (pe_callF F_legals hr rfl (pa_cons (pv 0 rfl (Or.inl rfl)) pa_nil)))) pss_nil) (pss_cons (ps_if (pt_cmpR op_eq (pv 1 rfl (Or.inl rfl)) pe_int (nomark _)) (pss_one (ps_ret (pe_callF F_contract hr rfl (pa_cons (pv 0 rfl (Or.inl rfl)) pa_nil)))) pss_nil) (pss_cons (ps_if (pt_cmpR op_eq (pv 1 rfl (Or.inl rfl)) pe_int (nomark _)) (pss_one (ps_ret (pe_callF F_ways hr rfl (pa_cons (pv 0 rfl (Or.inl rfl)) pa_nil)))) pss_nil) (pss_cons (ps_if (pt_cmpR op_eq (pv 1 rfl (Or.inl rfl)) pe_int (nomark _)) (pss_one (ps_ret (pe_callF F_longest hr rfl (pa_cons (pv 0 rfl (Or.inl rfl)) pa_nil)))) pss_nil) (pss_cons (ps_if (pt_cmpR op_eq (pv 1 rfl (Or.inl rfl)) pe_int (nomark _)) (pss_one (ps_ret (pe_callF F_number hr rfl (pa_cons (pv 0 rfl (Or.inl rfl)) pa_nil)))) pss_nil) (pss_cons (ps_if (pt_cmpR op_eq (pv 1 rfl (Or.inl rfl)) pe_int (nomark _)) (pss_one (ps_ret (pe_callF F_auction_text hr rfl (pa_cons (pv 0 rfl (Or.inl rfl)) pa_nil)))) pss_nil) (pss_one (ps_ret (pe_callF F_calls_made hr rfl (pa_cons (pv 0 rfl (Or.inl rfl)) pa_nil))))))))))))

end G
namespace G
open PySem PySem.Spec PyProof.Rows L2 Evl
section
variable {K : PySem.W.Frag} {σ : L2.St} {H H' : Hp} {ta tb tc te tx : TE} {t u : TT} {x y z v : V} {r r' : R2} {D : Ends} {tu tw tz : TS}
theorem rv_isN : RV rIsN x .non H (.bl (decide (x = .non))) := fun H1 _ _ q => ⟨rfl, q H1 (Ex.refl H1)⟩
theorem rv_notN : RV rNotN x .non H (.bl (!decide (x = .non))) := fun H1 _ _ q => ⟨rfl, q H1 (Ex.refl H1)⟩
theorem rv_isN0 : RV rIsN .non .non H (.bl true) := rv_isN
theorem rv_isNr {p : Addr} : RV rIsN (.ref p) .non H (.bl false) := rv_isN
theorem rv_isNi {i : Int} : RV rIsN (.int i) .non H (.bl false) := rv_isN
theorem rv_notN0 : RV rNotN .non .non H (.bl false) := rv_notN
theorem rv_notNr {p : Addr} : RV rNotN (.ref p) .non H (.bl true) := rv_notN
theorem rv_notNi {i : Int} : RV rNotN (.int i) .non H (.bl true) := rv_notN
/-- a < b < c, both asked -/
theorem ev_chain {k : Bool} (ha : Ev ta σ H x) (hb : Ev tb σ H y) (hr : RV r x y H (.bl k)) (hc : Ev tc σ H z) {l : Bool} (hr' : RV r' y z H (.bl l)) : Ev (tChain r r' ta tb tc) σ H (.bl (k && l)) := fun H1 e Q q =>
  ha H1 e _ fun H2 e2 => hb H2 (e.trans e2) _ fun H3 e3 => hr H3 ((e.trans e2).trans e3) _ fun H4 e4 => ⟨k, rfl, by
    cases k with
    | true =>
      show tc σ H4 fun w' H5 => r' y w' H5 Q
      exact hc H4 (((e.trans e2).trans e3).trans e4) _ fun H5 e5 => hr' H5 ((((e.trans e2).trans e3).trans e4).trans e5) Q fun H6 e6 => q H6 ((((e2.trans e3).trans e4).trans e5).trans e6)
    | false =>
      show Q (.bl false) H4
      exact q H4 ((e2.trans e3).trans e4)⟩
theorem et_or1 (h : EvT t σ H true) : EvT (tOr t u) σ H true := by
  have e := et_or (b := false) h (u := u) fun q => Bool.noConfusion q
  exact e
theorem et_and0 (h : EvT t σ H false) : EvT (tAnd t u) σ H false := by
  have e := et_and (b := false) h (u := u) fun q => Bool.noConfusion q
  exact e
theorem ev_andV0 (h : Ev ta σ H (.bl false)) : Ev (tAndV ta tb) σ H (.bl false) := by
  have e := ev_andV (b := false) h (tb := tb) fun q => Bool.noConfusion q
  exact e
theorem ev_orV1 (h : Ev ta σ H (.bl true)) : Ev (tOrV ta tb) σ H (.bl true) := by
  have e := ev_orV (b := false) h (tb := tb) fun q => Bool.noConfusion q
  exact e
theorem ret_is {w : V} {Q : VK} (k : RetV z H Q) (e : w = z) : RetV w H Q := by
  rw [e]
  exact k
theorem nx_of (h : StX tz D σ H) : NxX (tz D) σ H := h
/-- an attribute -/
theorem ev_fld {a C dx : Addr} {fs : List (Str × V)} {f : Str} (ha : Ev ta σ H (.ref a)) (ho : H a = some (.ins C dx fs)) (hc : Cls K C) (hn : NoAttr K C f) (hl : fs.lookup f = some v) : Ev (tFld K ta f) σ H v := fun H1 e Q q =>
  ha H1 e _ fun H2 e2 => ⟨a, C, dx, fs, v, rfl, (e.trans e2) _ _ ho, hc, hn, hl, q H2 e2⟩
end

/-! ### the words of an auction -/
def WordAt (H : Hp) (v : V) : Option (Nat × Nat) → Prop
  | none => v = .non
  | some x => ∃ p, v = .ref p ∧ H p = some (pairHO x)
/-- of the calls made, a value -/
def RM (f : Mds → V) : List V → Hp → V → Prop := fun vs H z => ∃ (a : Addr) (m : Mds), vs = [.ref a] ∧ MadeAt H a m ∧ z = f m
theorem RM.sv {f : Mds → V} {a : Addr} {m : Mds} {H : Hp} (h : MadeAt H a m) : SpV (RetSp (RM f)) ([.ref a] ++ []) H (f m) := RetSp.sv fun H1 e => ⟨a, m, rfl, h.mono e, rfl⟩
def sp_side_of : Sp := RetSp fun vs _ z => ∃ s : Int, vs = [.int s] ∧ z = .int (s % 2)
def sp_partner_of : Sp := RetSp fun vs _ z => ∃ s : Int, vs = [.int s] ∧ z = .int ((s + 2) % 4)
def sp_last_bid : Sp := RetSp (RM fun m => .int (lastI m))
def sp_side_of_last_bid : Sp := RetSp (RM fun m => .int (sideLast m : Nat))
def sp_last_word : Sp := fun vs H Q _ => ∃ (a : Addr) (m : Mds), vs = [.ref a] ∧ MadeAt H a m ∧ ∀ v H', Ex H H' → WordAt H' v (Vbbrac.lastWord m) → Q v H'
def sp_passes_at_end : Sp := RetSp (RM fun m => .int (Vbbrac.passes m : Nat))
def sp_passes_to_end : Sp := RetSp fun vs _ z => ∃ b : Int, vs = [.int b] ∧ z = .int (if b = -1 then 4 else 3)
def sp_is_over : Sp := RetSp (RM fun m => .bl (Vbbrac.over m))
def sp_seat_on_turn : Sp := RetSp fun vs H z => ∃ (d : Nat) (a : Addr) (m : Mds), vs = [.int (d : Nat), .ref a] ∧ MadeAt H a m ∧ z = .int (Vbbrac.turn d m : Nat)
def sp_doubled : Sp := RetSp (RM fun m => .int (Vbbrac.doubled m : Nat))
def sp_may_stand : Sp := RetSp fun vs H z => ∃ (a : Addr) (m : Mds) (s c : Nat), vs = [.ref a, .int (s : Nat), .int (c : Nat)] ∧ MadeAt H a m ∧ z = .bl (mayStand m s c)
def sp_is_legal : Sp := RetSp fun vs H z => ∃ (a : Addr) (m : Mds) (s c : Nat), vs = [.ref a, .int (s : Nat), .int (c : Nat)] ∧ MadeAt H a m ∧ c ≤ 37 ∧ z = .bl (Vbbrac.legal m s c)
def oInt : Option Nat → V
  | none => .non
  | some n => .int (n : Nat)
def sp_first_to_name : Sp := RetSp fun vs H z => ∃ (a : Addr) (m : Mds) (s c : Nat), vs = [.ref a, .int (s : Nat), .int (c : Nat)] ∧ MadeAt H a m ∧ z = oInt (Vbbrac.firstNamed m s c)
section
variable {H : Hp} {a : Addr} {m : Mds}
theorem sv_side_of {s : Int} : SpV sp_side_of ([.int s] ++ []) H (.int (s % 2)) := RetSp.sv fun _ _ => ⟨s, rfl, rfl⟩
theorem sv_partner_of {s : Int} : SpV sp_partner_of ([.int s] ++ []) H (.int ((s + 2) % 4)) := RetSp.sv fun _ _ => ⟨s, rfl, rfl⟩
theorem sv_last_bid (h : MadeAt H a m) : SpV sp_last_bid ([.ref a] ++ []) H (.int (lastI m)) := RM.sv h
theorem sv_side_of_last_bid (h : MadeAt H a m) : SpV sp_side_of_last_bid ([.ref a] ++ []) H (.int (sideLast m : Nat)) := RM.sv h
theorem sv_passes_at_end (h : MadeAt H a m) : SpV sp_passes_at_end ([.ref a] ++ []) H (.int (Vbbrac.passes m : Nat)) := RM.sv h
theorem sv_passes_to_end {b : Int} : SpV sp_passes_to_end ([.int b] ++ []) H (.int (if b = -1 then 4 else 3)) := RetSp.sv fun _ _ => ⟨b, rfl, rfl⟩
theorem sv_is_over (h : MadeAt H a m) : SpV sp_is_over ([.ref a] ++ []) H (.bl (Vbbrac.over m)) := RM.sv h
theorem sv_seat_on_turn {d : Nat} (h : MadeAt H a m) : SpV sp_seat_on_turn ([.int (d : Nat), .ref a] ++ []) H (.int (Vbbrac.turn d m : Nat)) := RetSp.sv fun _ e => ⟨d, a, m, rfl, h.mono e, rfl⟩
theorem sv_doubled (h : MadeAt H a m) : SpV sp_doubled ([.ref a] ++ []) H (.int (Vbbrac.doubled m : Nat)) := RM.sv h
theorem sv_may_stand {s c : Nat} (h : MadeAt H a m) : SpV sp_may_stand ([.ref a, .int (s : Nat), .int (c : Nat)] ++ []) H (.bl (mayStand m s c)) := RetSp.sv fun _ e => ⟨a, m, s, c, rfl, h.mono e, rfl⟩
theorem sv_is_legal {s c : Nat} (h : MadeAt H a m) (hc : c ≤ 37) : SpV sp_is_legal ([.ref a, .int (s : Nat), .int (c : Nat)] ++ []) H (.bl (Vbbrac.legal m s c)) := RetSp.sv fun _ e => ⟨a, m, s, c, rfl, h.mono e, hc, rfl⟩
theorem sv_first_to_name {s c : Nat} (h : MadeAt H a m) : SpV sp_first_to_name ([.ref a, .int (s : Nat), .int (c : Nat)] ++ []) H (oInt (Vbbrac.firstNamed m s c)) := RetSp.sv fun _ e => ⟨a, m, s, c, rfl, h.mono e, rfl⟩
end
/-- word = last_word(made) -/
theorem x_setW {σ : L2.St} {H : Hp} {ta : TA} {D : Ends} {tz : TS} {a : Addr} {m : Mds} {i : Nat} (hM : MadeAt H a m) (h : EvA ta σ H [.ref a])
    (k : ∀ v H1, Ex H H1 → WordAt H1 v (Vbbrac.lastWord m) → StX tz D (σ.set i (some v)) H1) : StX (tSeq (tAsg (tCall sp_last_word [] E0 ta) (gName i)) tz) D σ H := fun H1 e =>
  h H1 e _ fun H2 e2 => ⟨a, m, rfl, hM.mono (e.trans e2), fun v H3 e3 hw => k v H3 ((e.trans e2).trans e3) hw H3 (Ex.refl H3)⟩
/-- an item of the word -/
theorem ev_pair {K : PySem.W.Frag} {σ : L2.St} {H : Hp} {ta tb : TE} {p : Addr} {x : Nat × Nat} {i : Int} {v : V} (ha : Ev ta σ H (.ref p)) (hp : H p = some (pairHO x)) (hi : Ev tb σ H (.int i)) (hv : atI [.int (x.1 : Nat), .int (x.2 : Nat)] i = some v) : Ev (tOp (rIxT K) ta tb) σ H v :=
  ev_op ha hi (rv_ixT (SqT.of hp) hv)

/-! ### == of lists of whole numbers, of the calls made and nothing -/
section
variable {K : PySem.W.Frag} {H : Hp}
theorem dp_ints : ∀ (l : List Int), DpAll K H (l.map V.int) (l.map PyData.int)
  | [] => .nil
  | x :: r => .cons (.int x) (dp_ints r)
theorem lay_ints : ∀ (l : List Int), PyData.canLayAll0 (l.map PyData.int) = true
  | [] => rfl
  | x :: r => by
    show (PyData.canLay0 (.int x) && PyData.canLayAll0 (r.map PyData.int)) = true
    rw [lay_ints r]
    rfl
theorem depth_ints : ∀ (l : List Int), PyData.depthAll (l.map PyData.int) ≤ 1
  | [] => Nat.zero_le _
  | x :: r => by
    show max (PyData.depth (.int x)) (PyData.depthAll (r.map PyData.int)) ≤ 1
    have h := depth_ints r
    have e : PyData.depth (.int x) = 0 := by simp [PyData.depth]
    rw [e]
    omega
theorem shaped_ints (l : List Int) : SeqAt.shaped (.list (l.map PyData.int)) = true := by
  unfold SeqAt.shaped
  rw [Bool.and_eq_true]
  refine ⟨lay_ints l, decide_eq_true ?_⟩
  show PyData.depthAll (l.map PyData.int) + 1 ≤ 64
  have := depth_ints l
  omega
theorem eqv_ints : ∀ (l r : List Int), PyData.eqvAll (l.map PyData.int) (r.map PyData.int) = decide (l = r)
  | [], [] => by simp [PyData.eqvAll]
  | [], _ :: _ => by simp [PyData.eqvAll]
  | _ :: _, [] => by simp [PyData.eqvAll]
  | x :: l, y :: r => by
    show (PyData.eqv (.int x) (.int y) && PyData.eqvAll (l.map PyData.int) (r.map PyData.int)) = _
    rw [eqv_ints l r]
    show (x == y && decide (l = r)) = _
    by_cases h : x = y
    · subst h
      simp
    · simp [h]
theorem rv_eqInts {a b : Addr} {l r : List Int} (ha : SqL K H a (l.map V.int)) (hb : SqL K H b (r.map V.int)) : RV (rEqD K) (.ref a) (.ref b) H (.bl (decide (l = r))) := fun H1 e Q q =>
  ⟨_, _, .lst (ex_l e ha) (dp_ints l), .lst (ex_l e hb) (dp_ints r), shaped_ints l, shaped_ints r, by
    show Q (.bl (PyData.eqvAll (l.map PyData.int) (r.map PyData.int))) H1
    rw [eqv_ints]
    exact q H1 (Ex.refl H1)⟩
def prD (x : Nat × Nat) : PyData := .tuple [.int (x.1 : Nat), .int (x.2 : Nat)]
theorem dp_pairs : ∀ {m : Mds} {vs : List V}, PairsAt H vs m → DpAll K H vs (m.map prD)
  | [], [], _ => .nil
  | [], _ :: _, h => absurd h.1 (by simp)
  | x :: m, [], h => absurd h.1 (by simp)
  | x :: m, v :: vs, h => by
    obtain ⟨p, h1, h2⟩ := h.2 0 x rfl
    have e : v = .ref p := Option.some.inj h1
    subst e
    exact .cons (.tup (SqT.of h2) (.cons (.int _) (.cons (.int _) .nil))) (dp_pairs ⟨by simpa using h.1, fun i y hy => h.2 (i + 1) y hy⟩)
theorem lay_pairs : ∀ (m : Mds), PyData.canLayAll0 (m.map prD) = true
  | [] => rfl
  | x :: r => by
    show (PyData.canLay0 (prD x) && PyData.canLayAll0 (r.map prD)) = true
    rw [lay_pairs r]
    rfl
theorem depth_pairs : ∀ (m : Mds), PyData.depthAll (m.map prD) ≤ 2
  | [] => Nat.zero_le _
  | x :: r => by
    show max (PyData.depth (prD x)) (PyData.depthAll (r.map prD)) ≤ 2
    have h := depth_pairs r
    have e : PyData.depth (prD x) = 1 := by simp [prD, PyData.depth, PyData.depthAll]
    rw [e]
    omega
theorem rv_eqMade {a b : Addr} {m : Mds} (ha : MadeAt H a m) (hb : H b = some (.lst [])) : RV (rEqD K) (.ref a) (.ref b) H (.bl (decide (m = []))) := fun H1 e Q q => by
  obtain ⟨vs, h1, h2⟩ := ha
  refine ⟨_, .list [], .lst (SqL.of (e _ _ h1)) (dp_pairs (h2.mono e)), .lst (SqL.of (e _ _ hb)) .nil, ?_, rfl, ?_⟩
  · unfold SeqAt.shaped
    rw [Bool.and_eq_true]
    refine ⟨lay_pairs m, decide_eq_true ?_⟩
    show PyData.depthAll (m.map prD) + 1 ≤ 64
    have := depth_pairs m
    omega
  · show Q (.bl (PyData.eqvAll (m.map prD) [])) H1
    cases m with
    | nil => exact q H1 (Ex.refl H1)
    | cons x r => exact q H1 (Ex.refl H1)
end
end G
namespace G
open PySem PySem.Spec PyProof.Rows L2 Evl
local macro_rules | `(tactic| walk_at "ea") => `(tactic| first
  | with_reducible exact ea_nil
  | ((with_reducible refine' ea_cons ?eah ?eat); (case eah => walk_at "ev"); (case eat => walk_at "ea")))
local macro_rules | `(tactic| walk_at "rv") => `(tactic| first
  | with_reducible exact rv_I0
  | with_reducible exact rv_isN0
  | with_reducible exact rv_isNr
  | with_reducible exact rv_isNi
  | with_reducible exact rv_notN0
  | with_reducible exact rv_notNr
  | with_reducible exact rv_notNi
  | with_reducible exact rv_isN
  | with_reducible exact rv_notN
  | ((with_reducible refine' rv_eq ?rve); (case rve => rfl))
  | ((with_reducible refine' rv_ne ?rve); (case rve => rfl))
  | ((with_reducible refine' rv_I ?rve); (case rve => first | (exact (by decide)) | ((try dsimp only); first | decide | omega))))
local macro_rules | `(tactic| walk_at "ev") => `(tactic| first
  | with_reducible assumption
  | ((with_reducible refine' ev_var ?e0); (case e0 => exact rfl))
  | with_reducible exact ev_c
  | ((with_reducible refine' ev_op ?e1 ?e2 ?e3); (case e1 => walk_at "ev"); (case e2 => walk_at "ev"); (case e3 => walk_at "rv"))
  | ((with_reducible refine' ev_un ?e1 ru_neg); (case e1 => walk_at "ev"))
  | ((with_reducible refine' ev_call ?ca ?cb); (case ca => walk_at "ea"); (case cb => walk_at "gsp"))
  | ((with_reducible refine' ev_chain ?e1 ?e2 ?e3 ?e4 ?e5); (case e1 => walk_at "ev"); (case e2 => walk_at "ev"); (case e3 => walk_at "rv"); (case e4 => walk_at "ev"); (case e5 => walk_at "rv"))
  | ((with_reducible refine' ev_notV ?e1); (case e1 => walk_at "ev"))
  | fail "ev")
local macro_rules | `(tactic| walk_at "et") => `(tactic| first
  | with_reducible assumption
  | ((with_reducible refine' et_test ?e1); (case e1 => walk_at "ev"))
  | ((with_reducible refine' et_B ?e1); (case e1 => walk_at "ev"))
  | ((with_reducible refine' et_and ?e1 (fun hqq => ?e2)); (case e1 => walk_at "et"); (case e2 => walk_at "et"))
  | ((with_reducible refine' et_or ?e1 (fun hqq => ?e2)); (case e1 => walk_at "et"); (case e2 => walk_at "et"))
  | ((with_reducible refine' et_not ?e1); (case e1 => walk_at "et"))
  | fail "et")
local macro_rules | `(tactic| walk_at "nx") => `(tactic| ((try dsimp only); refine nx_of ?_))
local macro_rules | `(tactic| walk_at "xset") => `(tactic| (refine' x_set ?xe ?xk; (case xe => walk_at "ev")))
local macro_rules | `(tactic| walk_at "xasg") => `(tactic| (refine' x_asg ?xe ?xk; (case xe => walk_at "ev")))
local macro_rules | `(tactic| walk_at "xret") => `(tactic| (refine' x_ret ?xe ?xk; (case xe => walk_at "ev")))
local macro_rules | `(tactic| walk_at "xwhen") => `(tactic| (refine' x_when ?xe ?xk ?xl; (case xe => walk_at "et")))
local macro_rules | `(tactic| walk_at "xif") => `(tactic| (refine' x_if ?xe ?xk ?xl; (case xe => walk_at "et")))
local macro_rules | `(tactic| walk_at "xif2") => `(tactic| (refine' x_if2 ?xe ?xk ?xl; (case xe => walk_at "et")))
local macro_rules | `(tactic| walk_at "gsp") => `(tactic| first
  | exact sv_side_of
  | exact sv_partner_of
  | exact sv_passes_to_end
  | exact sv_last_bid (by assumption)
  | exact sv_side_of_last_bid (by assumption)
  | exact sv_passes_at_end (by assumption)
  | exact sv_is_over (by assumption)
  | exact sv_seat_on_turn (by assumption)
  | exact sv_doubled (by assumption)
  | exact sv_may_stand (by assumption)
  | exact sv_is_legal (by assumption) (by first | assumption | omega)
  | exact sv_first_to_name (by assumption))
variable {c : Cn}
theorem pure_side_of (vs : List V) (H : Hp) (Q : VK) (E : XK) (h : sp_side_of vs H Q E) : t_side_of c { nx := fun _ H' => Q .non H', rt := Q } (start ["seat"] vs) H := by
  obtain ⟨z, ⟨s, rfl, rfl⟩, k⟩ := h
  refine StX.go (x_ret ?_ k)
  walk_at "ev"
theorem pure_partner_of (vs : List V) (H : Hp) (Q : VK) (E : XK) (h : sp_partner_of vs H Q E) : t_partner_of c { nx := fun _ H' => Q .non H', rt := Q } (start ["seat"] vs) H := by
  obtain ⟨z, ⟨s, rfl, rfl⟩, k⟩ := h
  refine StX.go (x_ret ?_ k)
  walk_at "ev"
theorem pure_last_bid (vs : List V) (H : Hp) (Q : VK) (E : XK) (h : sp_last_bid vs H Q E) : t_last_bid c { nx := fun _ H' => Q .non H', rt := Q } (start ["made", "seat", "call"] vs) H := by
  obtain ⟨z, ⟨a, m, rfl, hM, rfl⟩, k⟩ := h
  refine StX.go (H := H) (x_seq (x_forRev hM (by walk_at "ev") (fun i σ => ∃ y1 y2, σ = [some (.ref a), y1, y2] ∧ Vbbrac.lastWhere (fun c => decide (3 ≤ c)) m = (m.reverse.drop i).find? fun x => decide (3 ≤ x.2)) ⟨none, none, rfl, rfl⟩ ?_ ?_))
  · rintro i x σ' hx ⟨y1, y2, rfl, e⟩
    rw [List.drop_eq_getElem_cons (List.getElem?_eq_some_iff.mp hx).1, (List.getElem?_eq_some_iff.mp hx).2, List.find?_cons] at e
    refine x_if (b := decide ((3 : Int) ≤ (x.2 : Nat))) (by walk_at "et") (fun hb => ?_) (fun hb => ?_)
    · refine x_ret (by walk_at "ev") (ret_is k ?_)
      have hb' : 3 ≤ x.2 := by simp at hb; omega
      have hb2 : decide (3 ≤ x.2) = true := by simp [hb']
      rw [hb2] at e
      show V.int ((x.2 : Nat) - 3 : Int) = V.int (lastI m)
      unfold lastI Vbbrac.lastBid
      rw [e]
      show V.int ((x.2 : Nat) - 3 : Int) = V.int ((x.2 - 3 : Nat) : Int)
      congr 1
      omega
    · have hb' : ¬ 3 ≤ x.2 := by simp at hb; omega
      have hb2 : decide (3 ≤ x.2) = false := by simp [hb']
      rw [hb2] at e
      exact x_nx fun H1 e1 => ⟨e1, _, _, rfl, e⟩
  · rintro σ' ⟨y1, y2, rfl, e⟩
    have z : m.reverse.drop m.length = [] := List.drop_eq_nil_of_le (by simp)
    rw [z] at e
    walk_at "nx"
    refine x_ret (by walk_at "ev") (ret_is k ?_)
    show V.int (-1) = V.int (lastI m)
    unfold lastI Vbbrac.lastBid
    rw [e]
    rfl
theorem pure_side_of_last_bid (vs : List V) (H : Hp) (Q : VK) (E : XK) (h : sp_side_of_last_bid vs H Q E) : t_side_of_last_bid c sp_side_of { nx := fun _ H' => Q .non H', rt := Q } (start ["made", "side", "seat", "call"] vs) H := by
  obtain ⟨z, ⟨a, m, rfl, hM, rfl⟩, k⟩ := h
  refine StX.go (H := H) ?_
  walk_at "xset"
  refine (x_seq (x_forMade hM (by walk_at "ev") (fun i σ => ∃ y1 y2, σ = [some (.ref a), some (.int (sideLast (m.take i) : Nat)), y1, y2]) ⟨none, none, rfl⟩ ?_ ?_))
  · rintro i x σ' hx ⟨y1, y2, rfl⟩
    have et : m.take (i + 1) = m.take i ++ [(x.1, x.2)] := by
      rw [List.take_add_one, hx]
      rfl
    have es : sideLast (m.take (i + 1)) = if 3 ≤ x.2 then x.1 % 2 else sideLast (m.take i) := by
      rw [et]
      unfold sideLast
      rw [lastBid_append]
      by_cases q : 3 ≤ x.2
      · rw [if_pos q, if_pos q]
      · rw [if_neg q, if_neg q]
    refine x_if (b := decide ((3 : Int) ≤ (x.2 : Nat))) (by walk_at "et") (fun hb => ?_) (fun hb => ?_)
    · have hb' : 3 ≤ x.2 := by simp at hb; omega
      walk_at "xasg"
      exact fun H1 e1 => ⟨e1, _, _, by rw [es, if_pos hb']; rfl⟩
    · have hb' : ¬ 3 ≤ x.2 := by simp at hb; omega
      exact x_nx fun H1 e1 => ⟨e1, _, _, by rw [es, if_neg hb']; rfl⟩
  · rintro σ' ⟨y1, y2, rfl⟩
    walk_at "nx"
    refine x_ret (by walk_at "ev") (ret_is k ?_)
    rw [List.take_length]
theorem pure_last_word (vs : List V) (H : Hp) (Q : VK) (E : XK) (h : sp_last_word vs H Q E) : t_last_word c { nx := fun _ H' => Q .non H', rt := Q } (start ["made", "seat", "call"] vs) H := by
  obtain ⟨a, m, rfl, hM, k⟩ := h
  refine StX.go (H := H) (x_seq (x_forRev hM (by walk_at "ev") (fun i σ => ∃ y1 y2, σ = [some (.ref a), y1, y2] ∧ Vbbrac.lastWord m = (m.reverse.drop i).find? fun x => decide (1 ≤ x.2)) ⟨none, none, rfl, rfl⟩ ?_ ?_))
  · rintro i x σ' hx ⟨y1, y2, rfl, e⟩
    rw [List.drop_eq_getElem_cons (List.getElem?_eq_some_iff.mp hx).1, (List.getElem?_eq_some_iff.mp hx).2, List.find?_cons] at e
    refine x_if (b := !decide (V.int (x.2 : Nat) = V.int 0)) (by walk_at "et") (fun hb => ?_) (fun hb => ?_)
    · refine x_retU (eu_tup (by walk_at "ea") (by show (2 : Nat) ≤ 100000; decide)) fun p H1 hp e1 h1 => k _ H1 e1 ?_
      have hb2 : decide (1 ≤ x.2) = true := by simp at hb; simp; omega
      rw [hb2] at e
      rw [e]
      exact ⟨p, rfl, h1⟩
    · have hb2 : decide (1 ≤ x.2) = false := by simp at hb; simp [hb]
      rw [hb2] at e
      exact x_nx fun H1 e1 => ⟨e1, _, _, rfl, e⟩
  · rintro σ' ⟨y1, y2, rfl, e⟩
    have z : m.reverse.drop m.length = [] := List.drop_eq_nil_of_le (by simp)
    rw [z] at e
    walk_at "nx"
    refine x_ret (by walk_at "ev") fun H1 e1 => k _ H1 e1 ?_
    rw [e]
    rfl
theorem takeWhile_eq {α : Type} (p : α → Bool) : ∀ (l : List α) (i : Nat), (∀ j x, j < i → l[j]? = some x → p x = true) → (∀ x, l[i]? = some x → p x = false) → i ≤ l.length → (l.takeWhile p).length = i
  | [], i, _, _, h => by simp at h; subst h; rfl
  | x :: r, 0, _, h2, _ => by
    have := h2 x rfl
    simp [List.takeWhile_cons, this]
  | x :: r, i + 1, h1, h2, h3 => by
    have e := h1 0 x (by omega) rfl
    rw [List.takeWhile_cons, if_pos e]
    have ih := takeWhile_eq p r i (fun j y hj hy => h1 (j + 1) y (by omega) hy) (fun y hy => h2 y hy) (by simpa using h3)
    simp [ih]
theorem pure_passes_at_end (vs : List V) (H : Hp) (Q : VK) (E : XK) (h : sp_passes_at_end vs H Q E) : t_passes_at_end c { nx := fun _ H' => Q .non H', rt := Q } (start ["made", "count", "seat", "call"] vs) H := by
  obtain ⟨z, ⟨a, m, rfl, hM, rfl⟩, k⟩ := h
  refine StX.go (H := H) ?_
  walk_at "xset"
  refine (x_seq (x_forRev hM (by walk_at "ev") (fun i σ => ∃ y1 y2, σ = [some (.ref a), some (.int (i : Nat)), y1, y2] ∧ ∀ j x, j < i → m.reverse[j]? = some x → (x.2 == 0) = true) ⟨none, none, rfl, fun j x h => by omega⟩ ?_ ?_))
  · rintro i x σ' hx ⟨y1, y2, rfl, e⟩
    refine x_when (b := !decide (V.int (x.2 : Nat) = V.int 0)) (by walk_at "et") (fun hb => ?_) (fun hb => ?_)
    · refine x_brk ?_
      walk_at "nx"
      walk_at "xret"
      refine ret_is k ?_
      have hb2 : (x.2 == 0) = false := by simp at hb; simp; omega
      show V.int (i : Nat) = V.int (Vbbrac.passes m : Nat)
      unfold Vbbrac.passes
      rw [takeWhile_eq _ _ i e (fun y hy => by rw [hx] at hy; cases hy; exact hb2) (Nat.le_of_lt (List.getElem?_eq_some_iff.mp hx).1)]
    · have hb2 : (x.2 == 0) = true := by simp at hb; simp [hb]
      walk_at "xasg"
      refine fun H1 e1 => ⟨e1, _, _, rfl, fun j y hj hy => ?_⟩
      by_cases q : j = i
      · subst q
        rw [hx] at hy
        cases hy
        exact hb2
      · exact e j y (by omega) hy
  · rintro σ' ⟨y1, y2, rfl, e⟩
    walk_at "nx"
    refine x_ret (by walk_at "ev") (ret_is k ?_)
    show V.int (m.length : Nat) = V.int (Vbbrac.passes m : Nat)
    unfold Vbbrac.passes
    rw [takeWhile_eq _ _ m.length e (fun y hy => by have := (List.getElem?_eq_some_iff.mp hy).1; simp at this) (by simp)]
theorem pure_passes_to_end (vs : List V) (H : Hp) (Q : VK) (E : XK) (h : sp_passes_to_end vs H Q E) : t_passes_to_end c { nx := fun _ H' => Q .non H', rt := Q } (start ["bid"] vs) H := by
  obtain ⟨z, ⟨b, rfl, rfl⟩, k⟩ := h
  refine StX.go (H := H) (x_ret (v := .int (if b = -1 then 4 else 3)) (ev_if (b := decide (V.int b = V.int (-1))) (by walk_at "et") (fun hb => ?_) (fun hb => ?_)) k)
  · simp at hb
    rw [if_pos hb]
    exact ev_c
  · simp at hb
    rw [if_neg hb]
    exact ev_c
theorem pure_is_over (vs : List V) (H : Hp) (Q : VK) (E : XK) (h : sp_is_over vs H Q E) : t_is_over c sp_last_bid sp_passes_at_end sp_passes_to_end { nx := fun _ H' => Q .non H', rt := Q } (start ["made"] vs) H := by
  obtain ⟨z, ⟨a, m, rfl, hM, rfl⟩, k⟩ := h
  refine StX.go (H := H) (x_ret (by walk_at "ev") (ret_is k ?_))
  show V.bl _ = V.bl _
  rw [over_iff]
theorem pure_seat_on_turn (vs : List V) (H : Hp) (Q : VK) (E : XK) (h : sp_seat_on_turn vs H Q E) : t_seat_on_turn c { nx := fun _ H' => Q .non H', rt := Q } (start ["dealer", "made"] vs) H := by
  obtain ⟨z, ⟨d, a, m, rfl, hM, rfl⟩, k⟩ := h
  refine StX.go (H := H) ?_
  refine' x_when (b := decide (m = [])) ?xe (fun hb => ?xk) (fun hb => ?xl)
  case xe =>
    refine et_test (ev_opL (x := .ref a) (xs := []) (by walk_at "ev") (el_lst ea_nil (by decide)) fun p H1 hp e => rv_eqMade (hM.mono e) hp)
  case xk =>
    walk_at "xret"
    refine ret_is k ?_
    have hb' : m = [] := by simpa using hb
    rw [hb']
    rfl
  case xl =>
    have hb' : m ≠ [] := by simpa using hb
    obtain ⟨vs, h1, h2⟩ := hM
    have hl : 0 < m.length := List.length_pos_iff.mpr hb'
    obtain ⟨p, hp1, hp2⟩ := h2.2 (m.length - 1) (m.getLast hb') (by rw [List.getElem?_eq_getElem (by omega), List.getLast_eq_getElem])
    have hz : atI vs (-1) = some (.ref p) := by
      unfold atI ixN
      rw [h2.1]
      have e1 : ¬ (0 : Int) ≤ -1 := by omega
      simp [e1]
      have e2 : (-1 + (m.length : Int)).toNat = m.length - 1 := by omega
      rw [if_pos (by omega), e2]
      exact hp1
    refine' x_ret ?xe ?xk
    case xe =>
      refine ev_op (ev_op (ev_pair (p := p) (i := 0) (v := .int ((m.getLast hb').1 : Nat)) (ev_op (x := .ref a) (y := .int (-1)) (by walk_at "ev") (by walk_at "ev") (rv_ixL (SqL.of h1) hz)) hp2 (by walk_at "ev") rfl) (by walk_at "ev") rv_I0) (by walk_at "ev") (by walk_at "rv")
    refine ret_is k ?_
    unfold Vbbrac.turn
    rw [List.getLast?_eq_getLast hb']
    rfl
theorem pure_doubled (vs : List V) (H : Hp) (Q : VK) (E : XK) (h : sp_doubled vs H Q E) : t_doubled c sp_last_word { nx := fun _ H' => Q .non H', rt := Q } (start ["made", "word"] vs) H := by
  obtain ⟨z, ⟨a, m, rfl, hM, rfl⟩, k⟩ := h
  refine StX.go (H := H) (x_setW hM (by walk_at "ea") fun v H1 e1 hw => ?_)
  replace k := RetV.mono e1 k
  cases w : Vbbrac.lastWord m with
  | none =>
    rw [w] at hw
    obtain rfl : v = .non := hw
    refine x_when (b := true) (et_or1 (et_test (by walk_at "ev"))) (fun hb => ?_) (fun hb => by cases hb)
    walk_at "xret"
    refine ret_is k ?_
    show V.int 0 = V.int (Vbbrac.doubled m : Nat)
    unfold Vbbrac.doubled
    rw [w]
    rfl
  | some x =>
    rw [w] at hw
    obtain ⟨p, rfl, hp⟩ := hw
    have hx := lastWord_pos m x w
    refine x_when (b := decide ((3 : Int) ≤ (x.2 : Nat))) (et_is (et_or (a := false) (et_test (by walk_at "ev")) fun _ => et_test (ev_op (ev_pair (by walk_at "ev") hp (i := 1) (v := .int (x.2 : Nat)) (by walk_at "ev") rfl) (by walk_at "ev") rv_I0)) (by simp)) (fun hb => ?_) (fun hb => ?_)
    · walk_at "xret"
      refine ret_is k ?_
      show V.int 0 = V.int (Vbbrac.doubled m : Nat)
      rw [doubled_word m x w]
      simp at hb
      rw [if_neg (by omega), if_neg (by omega)]
      rfl
    · refine x_ret (ev_pair (p := p) (by walk_at "ev") hp (i := 1) (v := .int (x.2 : Nat)) (by walk_at "ev") rfl) ?_
      refine ret_is k ?_
      show V.int (x.2 : Nat) = V.int (Vbbrac.doubled m : Nat)
      rw [doubled_word m x w]
      simp at hb
      by_cases q : x.2 = 1
      · rw [if_pos q, q]
      · rw [if_neg q, if_pos (by omega), show x.2 = 2 by omega]
theorem pure_may_stand (vs : List V) (H : Hp) (Q : VK) (E : XK) (h : sp_may_stand vs H Q E) : t_may_stand c sp_last_word sp_side_of { nx := fun _ H' => Q .non H', rt := Q } (start ["made", "seat", "call", "word"] vs) H := by
  obtain ⟨z, ⟨a, m, s, cc, rfl, hM, rfl⟩, k⟩ := h
  refine StX.go (H := H) (x_setW hM (by walk_at "ea") fun v H1 e1 hw => ?_)
  replace k := RetV.mono e1 k
  unfold mayStand at k
  cases w : Vbbrac.lastWord m with
  | none =>
    rw [w] at hw k
    dsimp only at k
    obtain rfl : v = .non := hw
    refine x_when (b := true) (et_or1 (et_test (by walk_at "ev"))) (fun hb => ?_) (fun hb => by cases hb)
    walk_at "xret"
    exact k
  | some x =>
    rw [w] at hw k
    dsimp only at k
    obtain ⟨p, rfl, hp⟩ := hw
    have h0 : ∀ σ, σ[3]? = some (some (V.ref p)) → Ev (tOp (rIxT c.K) (tVar 3) (tC (.int 0))) σ H1 (.int (x.1 : Nat)) := fun σ hσ => ev_pair (ev_var hσ) hp ev_c rfl
    have h1 : ∀ σ, σ[3]? = some (some (V.ref p)) → Ev (tOp (rIxT c.K) (tVar 3) (tC (.int 1))) σ H1 (.int (x.2 : Nat)) := fun σ hσ => ev_pair (ev_var hσ) hp ev_c rfl
    refine x_when (b := decide (V.int ((x.1 : Nat) % 2) = V.int ((s : Nat) % 2))) (et_is (et_or (a := false) (et_test (by walk_at "ev")) fun _ => et_test (ev_op (ev_call (ea_cons (h0 _ rfl) ea_nil) sv_side_of) (by walk_at "ev") (rv_eq rfl))) (by simp)) (fun hb => ?_) (fun hb => ?_)
    · have e : x.1 % 2 = s % 2 := by simp at hb; omega
      rw [if_pos e] at k
      walk_at "xret"
      exact k
    · have e : ¬ x.1 % 2 = s % 2 := by simp at hb; omega
      rw [if_neg e] at k
      walk_at "xwhen"
      case xk =>
        intro hb
        have e : cc = 1 := by simp at hb; omega
        rw [if_pos e] at k
        refine x_ret (ev_op (h1 _ rfl) ev_c rv_I0) (ret_is k ?_)
        simp
        omega
      case xl =>
        intro hb
        have e : ¬ cc = 1 := by simp at hb; omega
        rw [if_neg e] at k
        refine x_ret (ev_op (h1 _ rfl) ev_c (rv_eq rfl)) (ret_is k ?_)
        congr 1
        rw [Bool.eq_iff_iff]
        simp
        omega
theorem pure_is_legal (vs : List V) (H : Hp) (Q : VK) (E : XK) (h : sp_is_legal vs H Q E) : t_is_legal c sp_is_over sp_last_bid sp_may_stand { nx := fun _ H' => Q .non H', rt := Q } (start ["made", "seat", "call"] vs) H := by
  obtain ⟨z, ⟨a, m, s, cc, rfl, hM, hc, rfl⟩, k⟩ := h
  unfold Vbbrac.legal at k
  refine StX.go (H := H) ?_
  walk_at "xwhen"
  case xk =>
    intro hb
    rw [hb] at k
    walk_at "xret"
    exact k
  case xl =>
    intro hb
    rw [hb] at k
    walk_at "xwhen"
    case xk =>
      intro hb
      have e : cc = 0 := by simp at hb; omega
      rw [if_pos e] at k
      walk_at "xret"
      exact k
    case xl =>
      intro hb
      have e : ¬ cc = 0 := by simp at hb; omega
      rw [if_neg e] at k
      walk_at "xwhen"
      case xk =>
        intro hb
        simp at hb
        walk_at "xret"
        refine ret_is k ?_
        have q : cc = 1 ∨ cc = 2 := by omega
        rcases q with rfl | rfl
        · rw [mayStand_1]; simp
        · rw [mayStand_2]; simp
      case xl =>
        intro hb
        simp at hb
        walk_at "xret"
        refine ret_is k ?_
        rw [if_neg (by omega), if_neg (by omega)]
        unfold Vbbrac.enough lastI
        cases Vbbrac.lastBid m with
        | none =>
          congr 1
          rw [Bool.eq_iff_iff]
          simp
          omega
        | some y =>
          congr 1
          rw [Bool.eq_iff_iff]
          simp
          omega
theorem pure_first_to_name (vs : List V) (H : Hp) (Q : VK) (E : XK) (h : sp_first_to_name vs H Q E) : t_first_to_name c sp_side_of { nx := fun _ H' => Q .non H', rt := Q } (start ["made", "side", "strain", "seat", "call"] vs) H := by
  obtain ⟨z, ⟨a, m, s, cc, rfl, hM, rfl⟩, k⟩ := h
  refine StX.go (H := H) (x_seq (x_forMade hM (by walk_at "ev") (fun i σ => ∃ y1 y2, σ = [some (.ref a), some (.int (s : Nat)), some (.int (cc : Nat)), y1, y2] ∧ Vbbrac.firstNamed m s cc = Vbbrac.firstNamed (m.drop i) s cc) ⟨none, none, rfl, rfl⟩ ?_ ?_))
  · rintro i x σ' hx ⟨y1, y2, rfl, e⟩
    unfold Vbbrac.firstNamed at e
    rw [List.drop_eq_getElem_cons (List.getElem?_eq_some_iff.mp hx).1, (List.getElem?_eq_some_iff.mp hx).2, List.find?_cons] at e
    walk_at "xif"
    case xk =>
      intro hb
      walk_at "xret"
      refine ret_is k ?_
      unfold Vbbrac.firstNamed
      rw [e]
      have hq : (decide (3 ≤ x.2) && ((x.2 - 3) % 5 == cc && x.1 % 2 == s)) = true := by
        simp at hb
        simp
        omega
      rw [hq]
      rfl
    case xl =>
      intro hb
      refine x_nx fun H1 e1 => ⟨e1, _, _, rfl, ?_⟩
      have hq : (decide (3 ≤ x.2) && ((x.2 - 3) % 5 == cc && x.1 % 2 == s)) = false := by
        simp at hb
        simp
        omega
      rw [hq] at e
      exact e
  · rintro σ' ⟨y1, y2, rfl, e⟩
    have z : m.drop m.length = [] := List.drop_eq_nil_of_le (Nat.le_refl _)
    rw [z] at e
    walk_at "nx"
    walk_at "xret"
    refine ret_is k ?_
    rw [e]
    rfl
end G
namespace G
open PySem PySem.Spec PyProof.Rows L2 Evl

structure Zs (c : Cn) : Prop where
  zT : ClsFs c.K c.CT ["dealer", "vulnerability", "made", "barred", "once", "waiting", "mending", "past"]
  zS : ClsFs c.K c.CS ["table"]
  zP : ClsFs c.K c.CP ["bid", "doubled_number", "passes", "by_other"]

/-- all but the addresses in F as it was -/
def Keep (F : List Addr) (H H' : Hp) : Prop := ∀ b o, H b = some o → b ∉ F → H' b = some o
theorem Keep.refl {F : List Addr} {H : Hp} : Keep F H H := fun _ _ h _ => h
theorem Keep.of_ex {F : List Addr} {H H' : Hp} (e : Ex H H') : Keep F H H' := fun b o h _ => e b o h
theorem Keep.trans {F : List Addr} {H H1 H2 : Hp} (a : Keep F H H1) (b : Keep F H1 H2) : Keep F H H2 := fun x o h n => b x o (a x o h n) n
theorem Keep.upd {F : List Addr} {H H' : Hp} {x : Addr} {o : HO} (k : Keep F H H') (hx : x ∈ F) : Keep F H (upd H' x o) := fun b u h n => by
  rw [upd_ne (fun e => n (by rw [e]; exact hx))]
  exact k b u h n
theorem Keep.mono {F F' : List Addr} {H H' : Hp} (k : Keep F H H') (h : ∀ x ∈ F, x ∈ F') : Keep F' H H' := fun b o e n => k b o e fun q => n (h b q)
/-- what F keeps, if F' holds no more of the old -/
theorem Keep.trans' {F F' : List Addr} {H H1 H2 : Hp} (a : Keep F H H1) (b : Keep F' H1 H2) (n : ∀ x ∈ F', x ∈ F ∨ H x = none) : Keep F H H2 := fun x o h nx => b x o (a x o h nx) fun q => (n x q).elim nx fun z => by rw [z] at h; cases h

def bools (l : List Nat) : List V := [.bl (l.contains 0), .bl (l.contains 1), .bl (l.contains 2), .bl (l.contains 3)]
theorem bools_get (l : List Nat) {p : Nat} (h : p ≤ 3) : (bools l)[p]? = some (.bl (l.contains p)) := by
  have e : p = 0 ∨ p = 1 ∨ p = 2 ∨ p = 3 := by omega
  rcases e with rfl | rfl | rfl | rfl <;> rfl
theorem bools_ext {l : List Nat} {vs : List V} (hl : vs.length = 4) (h : ∀ p, p ≤ 3 → vs[p]? = some (.bl (l.contains p))) : vs = bools l := by
  refine List.ext_getElem? fun i => ?_
  by_cases hi : i ≤ 3
  · rw [h i hi, bools_get l hi]
  · rw [List.getElem?_eq_none (by omega), List.getElem?_eq_none (by show 4 ≤ i; omega)]
theorem bools_bar (l : List Nat) {p : Nat} (h : p ≤ 3) : (bools l).set p (.bl true) = bools (if l.contains p = true then l else l ++ [p]) := by
  refine bools_ext (by simp [bools]) fun q hq => ?_
  by_cases e : p = q
  · subst e
    rw [List.getElem?_set_self (by show p < 4; omega)]
    by_cases z : l.contains p = true
    · rw [if_pos z, z]
    · rw [if_neg z]
      simp
  · rw [List.getElem?_set_ne e, bools_get l hq]
    by_cases z : l.contains p = true
    · rw [if_pos z]
    · rw [if_neg z]
      simp
      omega
theorem bools_free (l : List Nat) {p : Nat} (h : p ≤ 3) : (bools l).set p (.bl false) = bools (l.filter fun q => q != p) := by
  refine bools_ext (by simp [bools]) fun q hq => ?_
  by_cases e : p = q
  · subst e
    rw [List.getElem?_set_self (by show p < 4; omega)]
    simp
  · rw [List.getElem?_set_ne e, bools_get l hq]
    simp
    intro _
    omega
/-- the addresses of a table's parts -/
structure Ads where
  dx : Addr
  am : Addr
  ab : Addr
  ao : Addr
  ap : Addr
abbrev Ads.l (A : Ads) : List Addr := [A.am, A.ab, A.ao, A.ap]
def tblFs (d v : Nat) (A : Ads) (w m : V) : List (Str × V) :=
  [("dealer", .int (d : Nat)), ("vulnerability", .int (v : Nat)), ("made", .ref A.am), ("barred", .ref A.ab), ("once", .ref A.ao), ("waiting", w), ("mending", m), ("past", .ref A.ap)]
def WaitAt (H : Hp) (v : V) : Option (Nat × Nat × Nat) → Prop
  | none => v = .non
  | some x => ∃ p, v = .ref p ∧ H p = some (.tup [.int (x.2.1 : Nat), .int (x.2.2 : Nat), .int (x.1 : Nat)])
def KeptAt (H : Hp) (F : List Addr) (v : V) (s : Vbbrac.State) : Prop := ∃ (p b o : Addr) (w m : V), v = .ref p ∧ H p = some (.tup [.int (s.made.length : Nat), .ref b, .ref o, w, m]) ∧
  H b = some (.lst (bools s.barred)) ∧ H o = some (.lst (bools s.once)) ∧ b ∉ F ∧ o ∉ F ∧ WaitAt H w s.waits ∧ WordAt H m s.mend
def PastAt (H : Hp) (F : List Addr) (ps : List V) (hs : List Vbbrac.State) : Prop := ps.length = hs.length ∧ ∀ (i : Nat) t, hs[i]? = some t → ∃ v, ps[i]? = some v ∧ KeptAt H F v t
structure TabAt (c : Cn) (H : Hp) (a : Addr) (A : Ads) (s : Vbbrac.State) (hs : List Vbbrac.State) : Prop where
  tab : ∃ w m, H a = some (.ins c.CT A.dx (tblFs s.dealer s.vul A w m)) ∧ WaitAt H w s.waits ∧ WordAt H m s.mend
  made : MadeAt H A.am s.made
  bar : H A.ab = some (.lst (bools s.barred))
  once : H A.ao = some (.lst (bools s.once))
  past : ∃ ps, H A.ap = some (.lst ps) ∧ PastAt H A.l ps hs
  nd : A.l.Nodup
theorem WaitAt.mono {H H' : Hp} {v : V} : ∀ {x : Option (Nat × Nat × Nat)}, WaitAt H v x → Ex H H' → WaitAt H' v x
  | none, h, _ => h
  | some _, ⟨p, h1, h2⟩, e => ⟨p, h1, e _ _ h2⟩
theorem WordAt.mono {H H' : Hp} {v : V} : ∀ {x : Option (Nat × Nat)}, WordAt H v x → Ex H H' → WordAt H' v x
  | none, h, _ => h
  | some _, ⟨p, h1, h2⟩, e => ⟨p, h1, e _ _ h2⟩
theorem WaitAt.keep {H H' : Hp} {v : V} (k : ∀ b xs, H b = some (.tup xs) → H' b = some (.tup xs)) : ∀ {x : Option (Nat × Nat × Nat)}, WaitAt H v x → WaitAt H' v x
  | none, h => h
  | some _, ⟨p, h1, h2⟩ => ⟨p, h1, k _ _ h2⟩
theorem WordAt.keep {H H' : Hp} {v : V} (k : ∀ b xs, H b = some (.tup xs) → H' b = some (.tup xs)) : ∀ {x : Option (Nat × Nat)}, WordAt H v x → WordAt H' v x
  | none, h => h
  | some _, ⟨p, h1, h2⟩ => ⟨p, h1, k _ _ h2⟩
theorem KeptAt.keep {H H' : Hp} {F F' : List Addr} {v : V} {s : Vbbrac.State} (h : KeptAt H F v s) (k : ∀ b xs, H b = some (.tup xs) → H' b = some (.tup xs)) (kl : ∀ b xs, b ∉ F → H b = some (.lst xs) → H' b = some (.lst xs) ∧ b ∉ F') : KeptAt H' F' v s := by
  obtain ⟨p, b, o, w, m, e, h1, h2, h3, n1, n2, hw, hm⟩ := h
  exact ⟨p, b, o, w, m, e, k _ _ h1, (kl _ _ n1 h2).1, (kl _ _ n2 h3).1, (kl _ _ n1 h2).2, (kl _ _ n2 h3).2, hw.keep k, hm.keep k⟩
theorem PastAt.keep {H H' : Hp} {F F' : List Addr} {ps : List V} {hs : List Vbbrac.State} (h : PastAt H F ps hs) (k : ∀ b xs, H b = some (.tup xs) → H' b = some (.tup xs)) (kl : ∀ b xs, b ∉ F → H b = some (.lst xs) → H' b = some (.lst xs) ∧ b ∉ F') : PastAt H' F' ps hs :=
  ⟨h.1, fun i t ht => let ⟨v, h1, h2⟩ := h.2 i t ht; ⟨v, h1, h2.keep k kl⟩⟩
theorem PairsAt.keep {H H' : Hp} {vs : List V} {m : Mds} (h : PairsAt H vs m) (k : ∀ b xs, H b = some (.tup xs) → H' b = some (.tup xs)) : PairsAt H' vs m :=
  ⟨h.1, fun i x hx => let ⟨p, h1, h2⟩ := h.2 i x hx; ⟨p, h1, k _ _ h2⟩⟩
theorem TabAt.mono {c : Cn} {H H' : Hp} {a : Addr} {A : Ads} {s : Vbbrac.State} {hs : List Vbbrac.State} (T : TabAt c H a A s hs) (e : Ex H H') : TabAt c H' a A s hs := by
  obtain ⟨⟨w, m, h1, h2, h3⟩, hm, hb, ho, ⟨ps, p1, p2⟩, nd⟩ := T
  exact ⟨⟨w, m, e _ _ h1, h2.mono e, h3.mono e⟩, hm.mono e, e _ _ hb, e _ _ ho, ⟨ps, e _ _ p1, p2.keep (fun b xs q => e _ _ q) fun b xs n q => ⟨e _ _ q, n⟩⟩, nd⟩
/-- tuples stand where lists and instances are written -/
theorem tup_upd {H : Hp} {x : Addr} {o : HO} (h : ∀ xs, H x ≠ some (.tup xs)) : ∀ b xs, H b = some (.tup xs) → upd H x o b = some (.tup xs) := fun b xs q => by
  rw [upd_ne (fun e => h xs (by rw [← e]; exact q))]
  exact q

section
variable {c : Cn} {H : Hp} {a : Addr} {A : Ads} {s : Vbbrac.State} {hs : List Vbbrac.State} {σ : L2.St} {ta : TE}
theorem lk_dealer {d v : Nat} {w m : V} : (tblFs d v A w m).lookup ("dealer" : Str) = some (.int (d : Nat)) := by rfl
theorem lk_vul {d v : Nat} {w m : V} : (tblFs d v A w m).lookup ("vulnerability" : Str) = some (.int (v : Nat)) := by rfl
theorem lk_made {d v : Nat} {w m : V} : (tblFs d v A w m).lookup ("made" : Str) = some (.ref A.am) := by rfl
theorem lk_barred {d v : Nat} {w m : V} : (tblFs d v A w m).lookup ("barred" : Str) = some (.ref A.ab) := by rfl
theorem lk_once {d v : Nat} {w m : V} : (tblFs d v A w m).lookup ("once" : Str) = some (.ref A.ao) := by rfl
theorem lk_waiting {d v : Nat} {w m : V} : (tblFs d v A w m).lookup ("waiting" : Str) = some w := by rfl
theorem lk_mending {d v : Nat} {w m : V} : (tblFs d v A w m).lookup ("mending" : Str) = some m := by rfl
theorem lk_past {d v : Nat} {w m : V} : (tblFs d v A w m).lookup ("past" : Str) = some (.ref A.ap) := by rfl
theorem put_waiting {d v : Nat} {w m x : V} : putF "waiting" x (tblFs d v A w m) = tblFs d v A x m := by rfl
theorem put_mending {d v : Nat} {w m x : V} : putF "mending" x (tblFs d v A w m) = tblFs d v A w x := by rfl
theorem put_made {d v : Nat} {w m : V} {x : Addr} : putF "made" (.ref x) (tblFs d v A w m) = tblFs d v { A with am := x } w m := by rfl
theorem put_barred {d v : Nat} {w m : V} {x : Addr} : putF "barred" (.ref x) (tblFs d v A w m) = tblFs d v { A with ab := x } w m := by rfl
theorem put_once {d v : Nat} {w m : V} {x : Addr} : putF "once" (.ref x) (tblFs d v A w m) = tblFs d v { A with ao := x } w m := by rfl
theorem put_past {d v : Nat} {w m : V} {x : Addr} : putF "past" (.ref x) (tblFs d v A w m) = tblFs d v { A with ap := x } w m := by rfl
variable (Z : Zs c) (T : TabAt c H a A s hs)
include Z T
theorem tv_dealer (h : Ev ta σ H (.ref a)) : Ev (tFld c.K ta "dealer") σ H (.int (s.dealer : Nat)) := let ⟨_, _, h1, _⟩ := T.tab; ev_fld h h1 Z.zT.cl (Z.zT.no _ (by simp)) lk_dealer
theorem tv_made (h : Ev ta σ H (.ref a)) : Ev (tFld c.K ta "made") σ H (.ref A.am) := let ⟨_, _, h1, _⟩ := T.tab; ev_fld h h1 Z.zT.cl (Z.zT.no _ (by simp)) lk_made
theorem tv_barred (h : Ev ta σ H (.ref a)) : Ev (tFld c.K ta "barred") σ H (.ref A.ab) := let ⟨_, _, h1, _⟩ := T.tab; ev_fld h h1 Z.zT.cl (Z.zT.no _ (by simp)) lk_barred
theorem tv_once (h : Ev ta σ H (.ref a)) : Ev (tFld c.K ta "once") σ H (.ref A.ao) := let ⟨_, _, h1, _⟩ := T.tab; ev_fld h h1 Z.zT.cl (Z.zT.no _ (by simp)) lk_once
theorem tv_past (h : Ev ta σ H (.ref a)) : Ev (tFld c.K ta "past") σ H (.ref A.ap) := let ⟨_, _, h1, _⟩ := T.tab; ev_fld h h1 Z.zT.cl (Z.zT.no _ (by simp)) lk_past
theorem tv_waiting : ∃ w, WaitAt H w s.waits ∧ ∀ σ ta, Ev ta σ H (.ref a) → Ev (tFld c.K ta "waiting") σ H w := let ⟨w, _, h1, h2, _⟩ := T.tab; ⟨w, h2, fun σ ta h => ev_fld h h1 Z.zT.cl (Z.zT.no _ (by simp)) lk_waiting⟩
theorem tv_mending : ∃ w, WordAt H w s.mend ∧ ∀ σ ta, Ev ta σ H (.ref a) → Ev (tFld c.K ta "mending") σ H w := let ⟨_, w, h1, _, h2⟩ := T.tab; ⟨w, h2, fun σ ta h => ev_fld h h1 Z.zT.cl (Z.zT.no _ (by simp)) lk_mending⟩
end

/-! ### what a store makes of a table -/
section
variable {c : Cn} {H : Hp} {a : Addr} {A : Ads} {s : Vbbrac.State} {hs : List Vbbrac.State}
theorem lst_ne_tup {x : Addr} {vs : List V} (h : H x = some (.lst vs)) : ∀ xs, H x ≠ some (.tup xs) := fun xs q => by rw [h] at q; cases q
theorem TabAt.nds (T : TabAt c H a A s hs) : A.am ≠ A.ab ∧ A.am ≠ A.ao ∧ A.am ≠ A.ap ∧ A.ab ≠ A.ao ∧ A.ab ≠ A.ap ∧ A.ao ≠ A.ap := by
  have n := T.nd
  simp only [Ads.l, List.nodup_cons, List.mem_cons, List.not_mem_nil, or_false, not_or] at n
  exact ⟨n.1.1, n.1.2.1, n.1.2.2, n.2.1.1, n.2.1.2, n.2.2.1⟩
theorem TabAt.a_ne (T : TabAt c H a A s hs) {x : Addr} {vs : List V} (h : H x = some (.lst vs)) : a ≠ x := by
  obtain ⟨w, m, h1, _⟩ := T.tab
  exact ne_of h1 h (by intro z; cases z)
/-- the past, where a list of the table's own is written -/
theorem PastAt.own {F : List Addr} {ps : List V} {x : Addr} {vs ws : List V} (h : PastAt H F ps hs) (hx : H x = some (.lst vs)) (hm : x ∈ F) : PastAt (upd H x (.lst ws)) F ps hs :=
  h.keep (tup_upd (lst_ne_tup hx)) fun b xs n q => ⟨by rw [upd_ne (fun e => n (by rw [e]; exact hm))]; exact q, n⟩
theorem TabAt.push (T : TabAt c H a A s hs) {p : Addr} {x : Nat × Nat} (hp : H p = some (pairHO x)) {vs : List V} (hv : H A.am = some (.lst vs)) :
    TabAt c (upd H A.am (.lst (vs ++ [.ref p]))) a A { s with made := s.made ++ [x] } hs := by
  obtain ⟨n1, n2, n3, n4, n5, n6⟩ := T.nds
  have ha := T.a_ne hv
  have kt := tup_upd (o := .lst (vs ++ [.ref p])) (lst_ne_tup hv)
  obtain ⟨⟨w, m, h1, h2, h3⟩, ⟨vs', e, hm⟩, hb, ho, ⟨ps, p1, p2⟩, nd⟩ := T
  rw [hv] at e
  cases e
  refine ⟨⟨w, m, by rw [upd_ne ha]; exact h1, h2.keep kt, h3.keep kt⟩, ⟨_, upd_same, (hm.keep kt).snoc (kt _ _ hp)⟩, by rw [upd_ne (Ne.symm n1)]; exact hb, by rw [upd_ne (Ne.symm n2)]; exact ho, ⟨ps, by rw [upd_ne (Ne.symm n3)]; exact p1, p2.own hv (by simp)⟩, nd⟩
theorem TabAt.setBar (T : TabAt c H a A s hs) {l : List Nat} : TabAt c (upd H A.ab (.lst (bools l))) a A { s with barred := l } hs := by
  obtain ⟨n1, n2, n3, n4, n5, n6⟩ := T.nds
  have hv := T.bar
  have ha := T.a_ne hv
  have kt := tup_upd (o := .lst (bools l)) (lst_ne_tup hv)
  obtain ⟨⟨w, m, h1, h2, h3⟩, ⟨vs', e, hm⟩, hb, ho, ⟨ps, p1, p2⟩, nd⟩ := T
  refine ⟨⟨w, m, by rw [upd_ne ha]; exact h1, h2.keep kt, h3.keep kt⟩, ⟨_, by rw [upd_ne n1]; exact e, hm.keep kt⟩, upd_same, by rw [upd_ne (Ne.symm n4)]; exact ho, ⟨ps, by rw [upd_ne (Ne.symm n5)]; exact p1, p2.own hv (by simp)⟩, nd⟩
theorem TabAt.setOnce (T : TabAt c H a A s hs) {l : List Nat} : TabAt c (upd H A.ao (.lst (bools l))) a A { s with once := l } hs := by
  obtain ⟨n1, n2, n3, n4, n5, n6⟩ := T.nds
  have hv := T.once
  have ha := T.a_ne hv
  have kt := tup_upd (o := .lst (bools l)) (lst_ne_tup hv)
  obtain ⟨⟨w, m, h1, h2, h3⟩, ⟨vs', e, hm⟩, hb, ho, ⟨ps, p1, p2⟩, nd⟩ := T
  refine ⟨⟨w, m, by rw [upd_ne ha]; exact h1, h2.keep kt, h3.keep kt⟩, ⟨_, by rw [upd_ne n2]; exact e, hm.keep kt⟩, by rw [upd_ne n4]; exact hb, upd_same, ⟨ps, by rw [upd_ne (Ne.symm n6)]; exact p1, p2.own hv (by simp)⟩, nd⟩
/-- the state before is kept -/
theorem TabAt.pushPast (T : TabAt c H a A s hs) {v : V} {ps : List V} (hv : H A.ap = some (.lst ps)) (hk : KeptAt H A.l v s) :
    TabAt c (upd H A.ap (.lst (ps ++ [v]))) a A s (hs ++ [s]) := by
  obtain ⟨n1, n2, n3, n4, n5, n6⟩ := T.nds
  have ha := T.a_ne hv
  have kt := tup_upd (o := .lst (ps ++ [v])) (lst_ne_tup hv)
  obtain ⟨⟨w, m, h1, h2, h3⟩, ⟨vs', e, hm⟩, hb, ho, ⟨ps', p1, p2⟩, nd⟩ := T
  rw [hv] at p1
  cases p1
  refine ⟨⟨w, m, by rw [upd_ne ha]; exact h1, h2.keep kt, h3.keep kt⟩, ⟨_, by rw [upd_ne n3]; exact e, hm.keep kt⟩, by rw [upd_ne n5]; exact hb, by rw [upd_ne n6]; exact ho, ⟨_, upd_same, ?_⟩, nd⟩
  have hk' : KeptAt (upd H A.ap (.lst (ps ++ [v]))) A.l v s := hk.keep kt fun b xs n q => ⟨by rw [upd_ne (fun e => n (by rw [e]; simp))]; exact q, n⟩
  have p3 := p2.own (ws := ps ++ [v]) hv (by simp)
  refine ⟨by simp [p2.1], fun i t ht => ?_⟩
  by_cases hi : i < hs.length
  · rw [List.getElem?_append_left hi] at ht
    rw [List.getElem?_append_left (by rw [p2.1]; exact hi)]
    exact p3.2 i t ht
  · rw [List.getElem?_append_right (by omega)] at ht
    have e0 : i - hs.length = 0 := by
      cases q : i - hs.length with
      | zero => rfl
      | succ n => rw [q] at ht; simp at ht
    rw [e0] at ht
    simp at ht
    subst ht
    rw [List.getElem?_append_right (by rw [p2.1]; omega), p2.1, e0]
    exact ⟨v, rfl, hk'⟩
/-- waiting, mending are written -/
theorem TabAt.setWait (T : TabAt c H a A s hs) {w' w m : V} {x : Option (Nat × Nat × Nat)} (h : H a = some (.ins c.CT A.dx (tblFs s.dealer s.vul A w m))) (hw : WaitAt H w' x) :
    TabAt c (upd H a (.ins c.CT A.dx (tblFs s.dealer s.vul A w' m))) a A { s with waits := x } hs := by
  have kt := tup_upd (o := .ins c.CT A.dx (tblFs s.dealer s.vul A w' m)) (x := a) (H := H) fun xs q => by rw [h] at q; cases q
  have kl : ∀ b xs, H b = some (.lst xs) → upd H a (.ins c.CT A.dx (tblFs s.dealer s.vul A w' m)) b = some (.lst xs) := fun b xs q => by
    rw [upd_ne (ne_of q h (by intro z; cases z))]
    exact q
  obtain ⟨⟨w2, m2, h1, h2, h3⟩, ⟨vs', e, hm⟩, hb, ho, ⟨ps, p1, p2⟩, nd⟩ := T
  rw [h] at h1
  have em : m = m2 := by
    have q := congrArg (fun z => match z with | some (HO.ins _ _ fs) => fs.lookup ("mending" : Str) | _ => none) h1
    exact Option.some.inj (lk_mending.symm.trans (q.trans lk_mending))
  subst em
  exact ⟨⟨w', m, upd_same, hw.keep kt, h3.keep kt⟩, ⟨_, kl _ _ e, hm.keep kt⟩, kl _ _ hb, kl _ _ ho, ⟨ps, kl _ _ p1, p2.keep kt fun b xs n q => ⟨kl _ _ q, n⟩⟩, nd⟩
theorem TabAt.setMend (T : TabAt c H a A s hs) {m' w m : V} {x : Option (Nat × Nat)} (h : H a = some (.ins c.CT A.dx (tblFs s.dealer s.vul A w m))) (hw : WordAt H m' x) :
    TabAt c (upd H a (.ins c.CT A.dx (tblFs s.dealer s.vul A w m'))) a A { s with mend := x } hs := by
  have kt := tup_upd (o := .ins c.CT A.dx (tblFs s.dealer s.vul A w m')) (x := a) (H := H) fun xs q => by rw [h] at q; cases q
  have kl : ∀ b xs, H b = some (.lst xs) → upd H a (.ins c.CT A.dx (tblFs s.dealer s.vul A w m')) b = some (.lst xs) := fun b xs q => by
    rw [upd_ne (ne_of q h (by intro z; cases z))]
    exact q
  obtain ⟨⟨w2, m2, h1, h2, h3⟩, ⟨vs', e, hm⟩, hb, ho, ⟨ps, p1, p2⟩, nd⟩ := T
  rw [h] at h1
  have em : w = w2 := by
    have q := congrArg (fun z => match z with | some (HO.ins _ _ fs) => fs.lookup ("waiting" : Str) | _ => none) h1
    exact Option.some.inj (lk_waiting.symm.trans (q.trans lk_waiting))
  subst em
  exact ⟨⟨w, m', upd_same, h2.keep kt, hw.keep kt⟩, ⟨_, kl _ _ e, hm.keep kt⟩, kl _ _ hb, kl _ _ ho, ⟨ps, kl _ _ p1, p2.keep kt fun b xs n q => ⟨kl _ _ q, n⟩⟩, nd⟩
end
/-! ### stores of attributes -/
section
variable {K : PySem.W.Frag} {σ : L2.St} {H : Hp} {ta tv : TE} {y : V} {a C dx : Addr} {fs : List (Str × V)} {f : Str} {D : Ends} {tz : TS}
theorem s_fld (hv : Ev tv σ H y) (ha : Ev ta σ H (.ref a)) (ho : H a = some (.ins C dx fs)) (hc : Cls K C) (hn : NoAttr K C f) (hl : fs.length < 1000) (k : ∀ H1, Ex H H1 → D.nx σ (upd H1 a (.ins C dx (putF f y fs)))) : sFld K ta tv f D σ H :=
  hv H (Ex.refl H) _ fun H1 e1 => ha H1 e1 _ fun H2 e2 => ⟨a, C, dx, fs, rfl, (e1.trans e2) _ _ ho, hc, hn, hl, k H2 (e1.trans e2)⟩
theorem q_fld (hv : Ev tv σ H y) (ha : Ev ta σ H (.ref a)) (ho : H a = some (.ins C dx fs)) (hc : Cls K C) (hn : NoAttr K C f) (hl : fs.length < 1000) (k : ∀ H1, Ex H H1 → tz D σ (upd H1 a (.ins C dx (putF f y fs)))) : tSeq (sFld K ta tv f) tz D σ H :=
  s_fld (D := { D with nx := tz D }) hv ha ho hc hn hl k
theorem s_fldL {xs : List V} (hv : EvL tv σ H xs) (ha : Ev ta σ H (.ref a)) (ho : H a = some (.ins C dx fs)) (hc : Cls K C) (hn : NoAttr K C f) (hl : fs.length < 1000) (k : ∀ p H1, H p = none → Ex H H1 → H1 p = some (.lst xs) → D.nx σ (upd H1 a (.ins C dx (putF f (.ref p) fs)))) : sFld K ta tv f D σ H :=
  hv H (Ex.refl H) _ fun p H1 hp e1 h1 => ha H1 e1 _ fun H2 e2 => ⟨a, C, dx, fs, rfl, (e1.trans e2) _ _ ho, hc, hn, hl, k p H2 hp (e1.trans e2) (e2 _ _ h1)⟩
theorem q_fldL {xs : List V} (hv : EvL tv σ H xs) (ha : Ev ta σ H (.ref a)) (ho : H a = some (.ins C dx fs)) (hc : Cls K C) (hn : NoAttr K C f) (hl : fs.length < 1000) (k : ∀ p H1, H p = none → Ex H H1 → H1 p = some (.lst xs) → tz D σ (upd H1 a (.ins C dx (putF f (.ref p) fs)))) : tSeq (sFld K ta tv f) tz D σ H :=
  s_fldL (D := { D with nx := tz D }) hv ha ho hc hn hl k
theorem s_fldU {xs : List V} (hv : EvU tv σ H xs) (ha : Ev ta σ H (.ref a)) (ho : H a = some (.ins C dx fs)) (hc : Cls K C) (hn : NoAttr K C f) (hl : fs.length < 1000) (k : ∀ p H1, H p = none → Ex H H1 → H1 p = some (.tup xs) → D.nx σ (upd H1 a (.ins C dx (putF f (.ref p) fs)))) : sFld K ta tv f D σ H :=
  hv H (Ex.refl H) _ fun p H1 hp e1 h1 => ha H1 e1 _ fun H2 e2 => ⟨a, C, dx, fs, rfl, (e1.trans e2) _ _ ho, hc, hn, hl, k p H2 hp (e1.trans e2) (e2 _ _ h1)⟩
theorem q_fldU {xs : List V} (hv : EvU tv σ H xs) (ha : Ev ta σ H (.ref a)) (ho : H a = some (.ins C dx fs)) (hc : Cls K C) (hn : NoAttr K C f) (hl : fs.length < 1000) (k : ∀ p H1, H p = none → Ex H H1 → H1 p = some (.tup xs) → tz D σ (upd H1 a (.ins C dx (putF f (.ref p) fs)))) : tSeq (sFld K ta tv f) tz D σ H :=
  s_fldU (D := { D with nx := tz D }) hv ha ho hc hn hl k
end
/-! ### the promises of tables -/
open Vbbrac (State stands bar partner turnOf legal)
def needed (s : State) (p c : Nat) : Bool := if s.mend = none ∨ p ≠ turnOf s ∨ c = 0 then true else decide (3 ≤ c) && legal s.made p c
/-- the lowest bid above the last one in a strain, 35 or more if none is left -/
def mendedI (m : Mds) (b : Nat) : Int := lastI m + 1 + ((b : Int) - (lastI m + 1)) % 5
def makeCall (s : State) (p c : Nat) : State × Nat :=
  if 0 < c ∧ c < 3 ∧ mayStand s.made p c = false then (bar s (partner p), 3)
  else if p ≠ turnOf s then ({ s with waits := some (2, p, c) }, 2)
  else if 3 ≤ c ∧ legal s.made p c = false then ({ s with waits := some (1, p, c) }, 1)
  else match s.mend with
    | none => (stands s p c, 0)
    | some x => (if (c : Int) - 3 = mendedI s.made x.2 then stands s p c else stands (bar s (partner p)) p c, 0)
def decided (s : State) (y : Bool) : State × Nat := match s.waits with
  | none => (s, 0)
  | some (kind, seat, c) =>
    if y = true then (stands s seat c, 0)
    else if kind = 1 then ({ s with waits := none, mend := some (seat, c - 3) }, 4)
    else if c = 0 then ({ s with waits := none, once := if s.once.contains seat = true then s.once else s.once ++ [seat] }, 5)
    else (bar { s with waits := none } (partner seat), 6)
/-- the table as it was kept -/
def backTo (s t : State) : State := { s with made := s.made.take t.made.length, barred := t.barred, once := t.once, waits := t.waits, mend := t.mend }
def sp_turn_of (c : Cn) : Sp := RetSp fun vs H z => ∃ a A s hs, vs = [.ref a] ∧ TabAt c H a A s hs ∧ z = .int (turnOf s : Nat)
def sp_must_pass (c : Cn) : Sp := RetSp fun vs H z => ∃ a A s hs, ∃ p : Nat, vs = [.ref a, .int (p : Nat)] ∧ TabAt c H a A s hs ∧ p ≤ 3 ∧ z = .bl (s.barred.contains p || s.once.contains p)
def sp_is_needed (c : Cn) : Sp := RetSp fun vs H z => ∃ a A s hs, ∃ p cc : Nat, vs = [.ref a, .int (p : Nat), .int (cc : Nat)] ∧ TabAt c H a A s hs ∧ cc ≤ 37 ∧ z = .bl (needed s p cc)
def sp_mended_bid (c : Cn) : Sp := RetSp fun vs H z => ∃ a A s hs, ∃ x : Nat × Nat, vs = [.ref a] ∧ TabAt c H a A s hs ∧ s.mend = some x ∧ z = .int (mendedI s.made x.2)
/-- the table at a is changed: the new state, the new past, the answer -/
def ChT (c : Cn) (R : List V → Addr → State → List State → State → List State → V → Prop) : Sp := fun vs H Q _ => ∃ a A s hs s' hs' z, TabAt c H a A s hs ∧ R vs a s hs s' hs' z ∧
  ∀ H' A', TabAt c H' a A' s' hs' → Keep (a :: A.l) H H' → (∀ x ∈ A'.l, x ∈ A.l ∨ H x = none) → Q z H'
def sp_remember (c : Cn) : Sp := ChT c fun vs a s hs s' hs' z => vs = [.ref a] ∧ hs.length < 1000 ∧ s' = s ∧ hs' = hs ++ [s] ∧ z = .non
def sp_let_stand (c : Cn) : Sp := ChT c fun vs a s hs s' hs' z => ∃ p cc : Nat, vs = [.ref a, .int (p : Nat), .int (cc : Nat)] ∧ p ≤ 3 ∧ s.made.length < 1000 ∧ s' = stands s p cc ∧ hs' = hs ∧ z = .non
def sp_bar_partner (c : Cn) : Sp := ChT c fun vs a s hs s' hs' z => ∃ p : Nat, vs = [.ref a, .int (p : Nat)] ∧ p ≤ 3 ∧ s' = bar s (partner p) ∧ hs' = hs ∧ z = .non
def sp_go_back (c : Cn) : Sp := ChT c fun vs a s hs s' hs' z => ∃ k : Nat, vs = [.ref a, .int (k : Nat)] ∧ k ≤ hs.length ∧ hs.length ≤ 1000 ∧ s.made.length ≤ 1000 ∧ z = .non ∧
  ((k = 0 ∧ s' = s ∧ hs' = hs) ∨ ∃ t, hs[hs.length - k]? = some t ∧ 0 < k ∧ s' = backTo s t ∧ hs' = hs.take (hs.length - k))
def sp_make_call (c : Cn) : Sp := ChT c fun vs a s hs s' hs' z => ∃ p cc : Nat, vs = [.ref a, .int (p : Nat), .int (cc : Nat)] ∧ p ≤ 3 ∧ cc ≤ 37 ∧ s.made.length < 1000 ∧ s' = (makeCall s p cc).1 ∧ hs' = hs ∧ z = .int ((makeCall s p cc).2 : Nat)
def sp_decide_waiting (c : Cn) : Sp := ChT c fun vs a s hs s' hs' z => ∃ (y : Bool) (kd seat cc : Nat), vs = [.ref a, .bl y] ∧ s.waits = some (kd, seat, cc) ∧ seat ≤ 3 ∧ (kd = 1 → 3 ≤ cc) ∧ s.made.length < 1000 ∧ s' = (decided s y).1 ∧ hs' = hs ∧ z = .int ((decided s y).2 : Nat)

/-- any target -/
theorem q_asgG {σ : L2.St} {H : Hp} {te : TE} {g : TG} {tz : TS} {D : Ends} {v : V} (h : Ev te σ H v) (k : ∀ H1, Ex H H1 → g v σ H1 (tz D)) : tSeq (tAsg te g) tz D σ H := h H (Ex.refl H) _ fun H1 e => k H1 e
/-! ### a call that changes a table -/
section
variable {c : Cn} {σ : L2.St} {H : Hp} {ta : TA} {D : Ends} {tz : TS} {a : Addr} {A : Ads} {s s' : State} {hs hs' : List State} {z : V} {vs : List V} {R : List V → Addr → State → List State → State → List State → V → Prop}
theorem ev_ch {Q : VK} (h : EvA ta σ H vs) (T : TabAt c H a A s hs) (r : R vs a s hs s' hs' z) (k : ∀ H1 A', TabAt c H1 a A' s' hs' → Keep (a :: A.l) H H1 → (∀ x ∈ A'.l, x ∈ A.l ∨ H x = none) → Q z H1) : tCall (ChT c R) [] E0 ta σ H Q :=
  h H (Ex.refl H) _ fun H1 e => by
    rw [List.append_nil]
    exact ⟨a, A, s, hs, s', hs', z, T.mono e, r, fun H2 A' T2 kp n => k H2 A' T2 ((Keep.of_ex e).trans kp) fun x hx => (n x hx).imp id fun q => fresh_back e q⟩
theorem q_ch (h : EvA ta σ H vs) (T : TabAt c H a A s hs) (r : R vs a s hs s' hs' z) (k : ∀ H1 A', TabAt c H1 a A' s' hs' → Keep (a :: A.l) H H1 → (∀ x ∈ A'.l, x ∈ A.l ∨ H x = none) → tz D σ H1) : tSeq (tDrop (tCall (ChT c R) [] E0 ta)) tz D σ H := ev_ch h T r k
theorem s_ch (h : EvA ta σ H vs) (T : TabAt c H a A s hs) (r : R vs a s hs s' hs' z) (k : ∀ H1 A', TabAt c H1 a A' s' hs' → Keep (a :: A.l) H H1 → (∀ x ∈ A'.l, x ∈ A.l ∨ H x = none) → D.nx σ H1) : tDrop (tCall (ChT c R) [] E0 ta) D σ H := ev_ch h T r k
end
end G
namespace G
open PySem PySem.Spec PyProof.Rows L2 Evl
open Vbbrac (State stands bar partner turnOf legal begun)
local macro_rules | `(tactic| walk_at "ea") => `(tactic| first
  | with_reducible exact ea_nil
  | ((with_reducible refine' ea_cons ?eah ?eat); (case eah => walk_at "ev"); (case eat => walk_at "ea")))
local macro_rules | `(tactic| walk_at "rv") => `(tactic| first
  | with_reducible exact rv_I0
  | with_reducible exact rv_isN0
  | with_reducible exact rv_isNr
  | with_reducible exact rv_isNi
  | with_reducible exact rv_notN0
  | with_reducible exact rv_notNr
  | with_reducible exact rv_notNi
  | with_reducible exact rv_isN
  | with_reducible exact rv_notN
  | ((with_reducible refine' rv_eq ?rve); (case rve => rfl))
  | ((with_reducible refine' rv_ne ?rve); (case rve => rfl))
  | ((with_reducible refine' rv_I ?rve); (case rve => first | (exact (by decide)) | ((try dsimp only); first | decide | omega))))
local macro_rules | `(tactic| walk_at "ev") => `(tactic| first
  | with_reducible assumption
  | ((with_reducible refine' ev_var ?e0); (case e0 => exact rfl))
  | with_reducible exact ev_c
  | ((with_reducible refine' ev_op ?e1 ?e2 ?e3); (case e1 => walk_at "ev"); (case e2 => walk_at "ev"); (case e3 => walk_at "rv"))
  | ((with_reducible refine' ev_un ?e1 ru_neg); (case e1 => walk_at "ev"))
  | ((with_reducible refine' ev_call ?ca ?cb); (case ca => walk_at "ea"); (case cb => walk_at "gsp"))
  | ((with_reducible refine' ev_chain ?e1 ?e2 ?e3 ?e4 ?e5); (case e1 => walk_at "ev"); (case e2 => walk_at "ev"); (case e3 => walk_at "rv"); (case e4 => walk_at "ev"); (case e5 => walk_at "rv"))
  | ((with_reducible refine' ev_notV ?e1); (case e1 => walk_at "ev"))
  | fail "ev")
local macro_rules | `(tactic| walk_at "et") => `(tactic| first
  | with_reducible assumption
  | ((with_reducible refine' et_test ?e1); (case e1 => walk_at "ev"))
  | ((with_reducible refine' et_B ?e1); (case e1 => walk_at "ev"))
  | ((with_reducible refine' et_and ?e1 (fun hqq => ?e2)); (case e1 => walk_at "et"); (case e2 => walk_at "et"))
  | ((with_reducible refine' et_or ?e1 (fun hqq => ?e2)); (case e1 => walk_at "et"); (case e2 => walk_at "et"))
  | ((with_reducible refine' et_not ?e1); (case e1 => walk_at "et"))
  | fail "et")
local macro_rules | `(tactic| walk_at "nx") => `(tactic| ((try dsimp only); refine nx_of ?_))
local macro_rules | `(tactic| walk_at "xset") => `(tactic| (refine' x_set ?xe ?xk; (case xe => walk_at "ev")))
local macro_rules | `(tactic| walk_at "xasg") => `(tactic| (refine' x_asg ?xe ?xk; (case xe => walk_at "ev")))
local macro_rules | `(tactic| walk_at "xret") => `(tactic| (refine' x_ret ?xe ?xk; (case xe => walk_at "ev")))
local macro_rules | `(tactic| walk_at "xwhen") => `(tactic| (refine' x_when ?xe ?xk ?xl; (case xe => walk_at "et")))
local macro_rules | `(tactic| walk_at "xif") => `(tactic| (refine' x_if ?xe ?xk ?xl; (case xe => walk_at "et")))
local macro_rules | `(tactic| walk_at "xif2") => `(tactic| (refine' x_if2 ?xe ?xk ?xl; (case xe => walk_at "et")))
local macro_rules | `(tactic| walk_at "gsp") => `(tactic| first
  | exact sv_side_of
  | exact sv_partner_of
  | exact sv_passes_to_end
  | exact sv_last_bid (by assumption)
  | exact sv_side_of_last_bid (by assumption)
  | exact sv_passes_at_end (by assumption)
  | exact sv_is_over (by assumption)
  | exact sv_seat_on_turn (by assumption)
  | exact sv_doubled (by assumption)
  | exact sv_may_stand (by assumption)
  | exact sv_is_legal (by assumption) (by first | assumption | omega)
  | exact sv_first_to_name (by assumption))
variable {c : Cn}
def sp_Table_init (c : Cn) : Sp := fun vs H Q _ => ∃ (p dx : Addr) (d v : Nat), vs = [.ref p, .int (d : Nat), .int (v : Nat)] ∧ H p = some (.ins c.CT dx []) ∧
  ∀ H' A, TabAt c H' p A (begun d v) [] → Keep [p] H H' → (∀ x ∈ A.l, H x = none) → Q .non H'
theorem pure_Table_init (Z : Zs c) (vs : List V) (H : Hp) (Q : VK) (E : XK) (h : sp_Table_init c vs H Q E) : t_Table_init c { nx := fun _ H' => Q .non H', rt := Q } (start ["self", "dealer", "vulnerability"] vs) H := by
  obtain ⟨p, dx, d, v, rfl, hp, k⟩ := h
  have mp : p ∈ [p] := List.mem_singleton.mpr rfl
  have fn : ∀ {H' : Hp} {q : Addr}, Keep [p] H H' → H' p ≠ none → H' q = none → H q = none := fun {H' q} kk np hq => by
    cases e : H q with
    | none => rfl
    | some o =>
      by_cases z : q = p
      · rw [z] at hq
        exact absurd hq np
      · rw [kk q o e (by simpa using z)] at hq
        cases hq
  refine q_fld (y := .int (d : Nat)) (by walk_at "ev") (by walk_at "ev") hp Z.zT.cl (Z.zT.no _ (by simp)) (by decide) fun H1 e1 => ?_
  have k1 : Keep [p] H _ := (Keep.of_ex e1).upd (o := .ins c.CT dx (putF "dealer" (.int (d : Nat)) [])) mp
  refine q_fld (y := .int (v : Nat)) (by walk_at "ev") (by walk_at "ev") upd_same Z.zT.cl (Z.zT.no _ (by simp)) (by show (1 : Nat) < 1000; decide) fun H2 e2 => ?_
  have k2 := ((k1.trans (Keep.of_ex e2)).upd (o := .ins c.CT dx (putF "vulnerability" (.int (v : Nat)) (putF "dealer" (.int (d : Nat)) []))) mp)
  refine q_fldL (xs := []) (el_lst ea_nil (by decide)) (by walk_at "ev") upd_same Z.zT.cl (Z.zT.no _ (by simp)) (by show (2 : Nat) < 1000; decide) fun am H3 ham e3 h3 => ?_
  have nam : am ≠ p := fun z => by rw [z, upd_same] at ham; cases ham
  have fam := fn k2 (by rw [upd_same]; simp) ham
  have k3 := ((k2.trans (Keep.of_ex e3)).upd (o := .ins c.CT dx (putF "made" (.ref am) (putF "vulnerability" (.int (v : Nat)) (putF "dealer" (.int (d : Nat)) [])))) mp)
  refine q_fldL (xs := [.bl false, .bl false, .bl false, .bl false]) (el_lst (by walk_at "ea") (by decide)) (by walk_at "ev") upd_same Z.zT.cl (Z.zT.no _ (by simp)) (by show (3 : Nat) < 1000; decide) fun ab H4 hab e4 h4 => ?_
  have nab : ab ≠ p := fun z => by rw [z, upd_same] at hab; cases hab
  have fab := fn k3 (by rw [upd_same]; simp) hab
  have m3 : upd H3 p (.ins c.CT dx (putF "made" (.ref am) (putF "vulnerability" (.int (v : Nat)) (putF "dealer" (.int (d : Nat)) [])))) am = some (.lst []) := by rw [upd_ne nam]; exact h3
  have n1 : am ≠ ab := ne_of_none m3 hab
  have k4 := ((k3.trans (Keep.of_ex e4)).upd (o := .ins c.CT dx (putF "barred" (.ref ab) (putF "made" (.ref am) (putF "vulnerability" (.int (v : Nat)) (putF "dealer" (.int (d : Nat)) []))))) mp)
  refine q_fldL (xs := [.bl false, .bl false, .bl false, .bl false]) (el_lst (by walk_at "ea") (by decide)) (by walk_at "ev") upd_same Z.zT.cl (Z.zT.no _ (by simp)) (by show (4 : Nat) < 1000; decide) fun ao H5 hao e5 h5 => ?_
  have nao : ao ≠ p := fun z => by rw [z, upd_same] at hao; cases hao
  have fao := fn k4 (by rw [upd_same]; simp) hao
  have m4 : upd H4 p (.ins c.CT dx (putF "barred" (.ref ab) (putF "made" (.ref am) (putF "vulnerability" (.int (v : Nat)) (putF "dealer" (.int (d : Nat)) []))))) am = some (.lst []) := by rw [upd_ne nam]; exact e4 _ _ m3
  have b4 : upd H4 p (.ins c.CT dx (putF "barred" (.ref ab) (putF "made" (.ref am) (putF "vulnerability" (.int (v : Nat)) (putF "dealer" (.int (d : Nat)) []))))) ab = some (.lst (bools [])) := by rw [upd_ne nab]; exact h4
  have n2 : am ≠ ao := ne_of_none m4 hao
  have n3 : ab ≠ ao := ne_of_none b4 hao
  have k5 := ((k4.trans (Keep.of_ex e5)).upd (o := .ins c.CT dx (putF "once" (.ref ao) (putF "barred" (.ref ab) (putF "made" (.ref am) (putF "vulnerability" (.int (v : Nat)) (putF "dealer" (.int (d : Nat)) [])))))) mp)
  refine q_fld (y := .non) (by walk_at "ev") (by walk_at "ev") upd_same Z.zT.cl (Z.zT.no _ (by simp)) (by show (5 : Nat) < 1000; decide) fun H6 e6 => ?_
  have k6 := ((k5.trans (Keep.of_ex e6)).upd (o := .ins c.CT dx (putF "waiting" .non (putF "once" (.ref ao) (putF "barred" (.ref ab) (putF "made" (.ref am) (putF "vulnerability" (.int (v : Nat)) (putF "dealer" (.int (d : Nat)) []))))))) mp)
  refine q_fld (y := .non) (by walk_at "ev") (by walk_at "ev") upd_same Z.zT.cl (Z.zT.no _ (by simp)) (by show (6 : Nat) < 1000; decide) fun H7 e7 => ?_
  have k7 := ((k6.trans (Keep.of_ex e7)).upd (o := .ins c.CT dx (putF "mending" .non (putF "waiting" .non (putF "once" (.ref ao) (putF "barred" (.ref ab) (putF "made" (.ref am) (putF "vulnerability" (.int (v : Nat)) (putF "dealer" (.int (d : Nat)) [])))))))) mp)
  refine s_fldL (xs := []) (el_lst ea_nil (by decide)) (by walk_at "ev") upd_same Z.zT.cl (Z.zT.no _ (by simp)) (by show (7 : Nat) < 1000; decide) fun ap H8 hap e8 h8 => ?_
  have nap : ap ≠ p := fun z => by rw [z, upd_same] at hap; cases hap
  have fap := fn k7 (by rw [upd_same]; simp) hap
  have go : ∀ {x : Addr} {vs : List V}, x ≠ p → upd H5 p (.ins c.CT dx (putF "once" (.ref ao) (putF "barred" (.ref ab) (putF "made" (.ref am) (putF "vulnerability" (.int (v : Nat)) (putF "dealer" (.int (d : Nat)) [])))))) x = some (.lst vs) →
      upd H7 p (.ins c.CT dx (putF "mending" .non (putF "waiting" .non (putF "once" (.ref ao) (putF "barred" (.ref ab) (putF "made" (.ref am) (putF "vulnerability" (.int (v : Nat)) (putF "dealer" (.int (d : Nat)) [])))))))) x = some (.lst vs) := fun {x vs} nx q => by
    rw [upd_ne nx]
    refine e7 _ _ ?_
    rw [upd_ne nx]
    exact e6 _ _ q
  have m7 := go nam (show _ = some (HO.lst []) by rw [upd_ne nam]; exact e5 _ _ m4)
  have b7 := go nab (show _ = some (HO.lst (bools [])) by rw [upd_ne nab]; exact e5 _ _ b4)
  have o7 := go nao (show _ = some (HO.lst (bools [])) by rw [upd_ne nao]; exact h5)
  have n4 : am ≠ ap := ne_of_none m7 hap
  have n5 : ab ≠ ap := ne_of_none b7 hap
  have n6 : ao ≠ ap := ne_of_none o7 hap
  refine k _ ⟨dx, am, ab, ao, ap⟩ ⟨⟨.non, .non, upd_same, rfl, rfl⟩, ⟨[], ?_, PairsAt.nil⟩, ?_, ?_, ⟨[], ?_, rfl, fun i t ht => by cases ht⟩, ?_⟩ ((k7.trans (Keep.of_ex e8)).upd mp) fun x hx => ?_
  · show upd H8 p _ am = _
    rw [upd_ne nam]
    exact e8 _ _ m7
  · show upd H8 p _ ab = _
    rw [upd_ne nab]
    exact e8 _ _ b7
  · show upd H8 p _ ao = _
    rw [upd_ne nao]
    exact e8 _ _ o7
  · show upd H8 p _ ap = _
    rw [upd_ne nap]
    exact h8
  · simp only [Ads.l, List.nodup_cons, List.mem_cons, List.not_mem_nil, or_false, not_or, not_false_eq_true, List.nodup_nil, and_true]
    exact ⟨⟨n1, n2, n4⟩, ⟨n3, n5⟩, n6⟩
  · simp only [Ads.l, List.mem_cons, List.not_mem_nil, or_false] at hx
    rcases hx with rfl | rfl | rfl | rfl
    · exact fam
    · exact fab
    · exact fao
    · exact fap
theorem pure_turn_of (Z : Zs c) (vs : List V) (H : Hp) (Q : VK) (E : XK) (h : sp_turn_of c vs H Q E) : t_turn_of c sp_seat_on_turn { nx := fun _ H' => Q .non H', rt := Q } (start ["table"] vs) H := by
  obtain ⟨z, ⟨a, A, s, hs, rfl, T, rfl⟩, k⟩ := h
  refine StX.go (H := H) (x_ret (ev_call (ea_cons (tv_dealer Z T (by walk_at "ev")) (ea_cons (tv_made Z T (by walk_at "ev")) ea_nil)) (sv_seat_on_turn T.made)) k)
theorem rv_bool {K : PySem.W.Frag} {H : Hp} {x : Addr} {l : List Nat} {p : Nat} (h : H x = some (.lst (bools l))) (hp : p ≤ 3) : RV (rIxL K) (.ref x) (.int (p : Nat)) H (.bl (l.contains p)) := rv_ixL (SqL.of h) (atI_nat (bools_get l hp))
theorem pure_must_pass (Z : Zs c) (vs : List V) (H : Hp) (Q : VK) (E : XK) (h : sp_must_pass c vs H Q E) : t_must_pass c { nx := fun _ H' => Q .non H', rt := Q } (start ["table", "seat"] vs) H := by
  obtain ⟨z, ⟨a, A, s, hs, p, rfl, T, hp, rfl⟩, k⟩ := h
  refine StX.go (H := H) (x_ret (ev_orV (ev_op (tv_barred Z T (by walk_at "ev")) (by walk_at "ev") (rv_bool T.bar hp)) fun _ => ev_op (tv_once Z T (by walk_at "ev")) (by walk_at "ev") (rv_bool T.once hp)) k)
theorem pure_is_needed_to_mend (Z : Zs c) (vs : List V) (H : Hp) (Q : VK) (E : XK) (h : sp_is_needed c vs H Q E) : t_is_needed_to_mend c sp_is_legal (sp_turn_of c) { nx := fun _ H' => Q .non H', rt := Q } (start ["table", "seat", "call"] vs) H := by
  obtain ⟨z, ⟨a, A, s, hs, p, cc, rfl, T, hc, rfl⟩, k⟩ := h
  obtain ⟨m, hm, em⟩ := tv_mending Z T
  have et : ∀ σ, σ[0]? = some (some (V.ref a)) → Ev (tCall (sp_turn_of c) [] E0 (tCons (tVar 0) tNil)) σ H (.int (turnOf s : Nat)) := fun σ hσ => ev_call (ea_cons (ev_var hσ) ea_nil) (RetSp.sv fun H1 e => ⟨a, A, s, hs, rfl, T.mono e, rfl⟩)
  unfold needed at k
  refine StX.go (H := H) (x_when (b := decide (s.mend = none ∨ p ≠ turnOf s ∨ cc = 0)) (et_is (et_or (a := decide (m = .non)) (et_test (ev_op (em _ _ (ev_var rfl)) ev_c rv_isN)) fun _ => et_or (a := !decide (V.int (p : Nat) = V.int (turnOf s : Nat))) (et_test (ev_op (ev_var rfl) (et _ rfl) (rv_ne rfl))) fun _ => et_test (by walk_at "ev")) ?_) ?_ ?_)
  · cases q : s.mend with
    | none =>
      rw [q] at hm
      obtain rfl : m = .non := hm
      simp
    | some x =>
      rw [q] at hm
      obtain ⟨pp, rfl, _⟩ := hm
      rw [Bool.eq_iff_iff]
      simp
      omega
  · intro hb
    rw [if_pos (of_decide_eq_true hb)] at k
    walk_at "xret"
    exact k
  · intro hb
    rw [if_neg (of_decide_eq_false hb)] at k
    refine x_ret (ev_andV (a := decide ((3 : Int) ≤ (cc : Nat))) (by walk_at "ev") fun _ => ev_call (ea_cons (tv_made Z T (ev_var rfl)) (ea_cons (ev_var rfl) (ea_cons (ev_var rfl) ea_nil))) (sv_is_legal T.made hc)) (ret_is k ?_)
    congr 2
    rw [Bool.eq_iff_iff]
    simp
    omega
theorem pure_remember (Z : Zs c) (vs : List V) (H : Hp) (Q : VK) (E : XK) (h : sp_remember c vs H Q E) : t_remember c { nx := fun _ H' => Q .non H', rt := Q } (start ["table", "kept"] vs) H := by
  obtain ⟨a, A, s, hs, s', hs', z, T, ⟨rfl, hl, rfl, rfl, rfl⟩, k⟩ := h
  obtain ⟨w, hw, ew⟩ := tv_waiting Z T
  obtain ⟨m, hm, em⟩ := tv_mending Z T
  obtain ⟨mv, hv, hmv⟩ := T.made
  obtain ⟨ps, hps, pp⟩ := T.past
  have ne : ∀ {q : Addr} {H1 : Hp}, Ex H H1 → H1 q = none → q ∉ A.l := fun {q H1} e hq hx => by
    obtain ⟨vs, hz⟩ := (show ∃ vs, H q = some (HO.lst vs) by
      simp only [Ads.l, List.mem_cons, List.not_mem_nil, or_false] at hx
      rcases hx with rfl | rfl | rfl | rfl
      · exact ⟨_, hv⟩
      · exact ⟨_, T.bar⟩
      · exact ⟨_, T.once⟩
      · exact ⟨_, hps⟩)
    rw [e _ _ hz] at hq
    cases hq
  refine (ev_len (tv_made Z T (ev_var rfl)) (SqL.of hv)) H (Ex.refl H) _ fun H1 e1 => ?_
  refine (el_list (tv_barred Z T (ev_var rfl)) (SqL.of T.bar)) H1 e1 _ fun pb H2 hpb e2 h2 => ?_
  refine (el_list (tv_once Z T (ev_var rfl)) (SqL.of T.once)) H2 (e1.trans e2) _ fun po H3 hpo e3 h3 => ?_
  refine ew _ _ (ev_var rfl) H3 ((e1.trans e2).trans e3) _ fun H4 e4 => ?_
  refine em _ _ (ev_var rfl) H4 (((e1.trans e2).trans e3).trans e4) _ fun H5 e5 => ?_
  have e := (((e1.trans e2).trans e3).trans e4).trans e5
  refine ⟨by show (5 : Nat) ≤ sizeLine; decide, fun p hp => ?_⟩
  have e6 : Ex H (upd H5 p (.tup [.int (mv.length : Nat), .ref pb, .ref po, w, m])) := e.trans (Ex.new hp)
  refine s_app (e6 _ _ hps) (tv_past Z (T.mono e6) (ev_var rfl)) (ev_var rfl) (by rw [pp.1]; omega) fun H6 e7 => ?_
  have e8 := e6.trans e7
  refine k _ A ((T.mono e8).pushPast (e8 _ _ hps) ⟨p, pb, po, w, m, rfl, ?_, ?_, ?_, ne e1 hpb, ne (e1.trans e2) hpo, hw.mono e8, hm.mono e8⟩) ((Keep.of_ex e8).upd (by simp)) fun x hx => .inl hx
  · rw [← hmv.1]
    exact e7 _ _ upd_same
  · exact e7 _ _ (Ex.new hp _ _ (e5 _ _ (e4 _ _ (e3 _ _ h2))))
  · exact e7 _ _ (Ex.new hp _ _ (e5 _ _ (e4 _ _ h3)))
theorem pure_bar_partner (Z : Zs c) (vs : List V) (H : Hp) (Q : VK) (E : XK) (h : sp_bar_partner c vs H Q E) : t_bar_partner c sp_partner_of { nx := fun _ H' => Q .non H', rt := Q } (start ["table", "seat"] vs) H := by
  obtain ⟨a, A, s, hs, s', hs', z, T, ⟨p, rfl, hp, rfl, rfl, rfl⟩, k⟩ := h
  refine s_setL (j := partner p) T.bar ev_c (tv_barred Z T (ev_var rfl)) (ev_is (ev_call (ea_cons (ev_var rfl) ea_nil) sv_partner_of) (by unfold partner; simp)) (by unfold partner; show _ < 4; omega) fun H1 e1 => ?_
  have hq : partner p ≤ 3 := by unfold partner; omega
  rw [bools_bar _ hq]
  exact k _ A ((T.mono e1).setBar) ((Keep.of_ex e1).upd (by simp)) fun x hx => .inl hx
theorem pure_let_stand (Z : Zs c) (vs : List V) (H : Hp) (Q : VK) (E : XK) (h : sp_let_stand c vs H Q E) : t_let_stand c { nx := fun _ H' => Q .non H', rt := Q } (start ["table", "seat", "call"] vs) H := by
  obtain ⟨a, A, s, hs, s', hs', z, T, ⟨p, cc, rfl, hp, hl, rfl, rfl, rfl⟩, k⟩ := h
  obtain ⟨mv, hv, hmv⟩ := T.made
  refine q_appU hv (tv_made Z T (ev_var rfl)) (eu_tup (vs := [.int (p : Nat), .int (cc : Nat)]) (by walk_at "ea") (by show (2 : Nat) ≤ 100000; decide)) (by rw [hmv.1]; omega) fun q H1 _ e1 hq => ?_
  have T1 := (T.mono e1).push (x := (p, cc)) hq (e1 _ _ hv)
  have k1 : Keep (a :: A.l) H _ := (Keep.of_ex e1).upd (x := A.am) (o := .lst (mv ++ [.ref q])) (by simp)
  refine q_setL (j := p) T1.once ev_c (tv_once Z T1 (ev_var rfl)) (ev_var rfl) (by show p < 4; omega) fun H2 e2 => ?_
  rw [bools_free _ hp]
  have T2 := (T1.mono e2).setOnce (l := s.once.filter fun q => q != p)
  have k2 := (k1.trans (Keep.of_ex e2)).upd (x := A.ao) (o := .lst (bools (s.once.filter fun q => q != p))) (by simp)
  obtain ⟨w, m, hd, hw, hm⟩ := T2.tab
  refine q_fld (y := .non) ev_c (ev_var rfl) hd Z.zT.cl (Z.zT.no _ (by simp)) (by show (8 : Nat) < 1000; decide) fun H3 e3 => ?_
  rw [put_waiting]
  have T3 := (T2.mono e3).setWait (w' := .non) (x := none) (e3 _ _ hd) rfl
  have k3 := (k2.trans (Keep.of_ex e3)).upd (x := a) (o := .ins c.CT A.dx (tblFs s.dealer s.vul A .non m)) (by simp)
  obtain ⟨w, m, hd, hw, hm⟩ := T3.tab
  refine s_fld (y := .non) ev_c (ev_var rfl) hd Z.zT.cl (Z.zT.no _ (by simp)) (by show (8 : Nat) < 1000; decide) fun H4 e4 => ?_
  rw [put_mending]
  have T4 := (T3.mono e4).setMend (m' := .non) (x := none) (e4 _ _ hd) rfl
  exact k _ A T4 ((k3.trans (Keep.of_ex e4)).upd (by simp)) fun x hx => .inl hx
theorem mended_bounds (m : Mds) (b : Nat) : lastI m + 1 ≤ mendedI m b ∧ mendedI m b < lastI m + 6 ∧ mendedI m b % 5 = (b : Int) % 5 := by
  unfold mendedI
  omega
theorem pure_mended_bid (Z : Zs c) (vs : List V) (H : Hp) (Q : VK) (E : XK) (h : sp_mended_bid c vs H Q E) : t_mended_bid c sp_last_bid { nx := fun _ H' => Q .non H', rt := Q } (start ["table", "bid"] vs) H := by
  obtain ⟨z, ⟨a, A, s, hs, x, rfl, T, hx, rfl⟩, k⟩ := h
  obtain ⟨m, hm, em⟩ := tv_mending Z T
  rw [hx] at hm
  obtain ⟨p, rfl, hp⟩ := hm
  obtain ⟨b1, b2, b3⟩ := mended_bounds s.made x.2
  refine q_asg (ev_op (ev_call (ea_cons (tv_made Z T (ev_var rfl)) ea_nil) (sv_last_bid T.made)) ev_c rv_I0) fun H1 e1 => ?_
  refine q_while (fun n σ H' => ∃ b : Int, σ = [some (.ref a), some (.int b)] ∧ Ex H H' ∧ lastI s.made + 1 ≤ b ∧ b ≤ mendedI s.made x.2 ∧ n = (mendedI s.made x.2 - b).toNat) _ ⟨_, rfl, e1, Int.le_refl _, b1, rfl⟩ ?_
  rintro n σ H' ⟨b, rfl, e, h1, h2, rfl⟩
  have T' := T.mono e
  refine ⟨!decide (V.int (b % 5) = V.int ((x.2 : Nat) % 5)), ?_, fun hb H2 e2 => ?_, fun hb H2 e2 => ?_⟩
  · refine et_test (ev_op (y := .int ((x.2 : Nat) % 5)) (by walk_at "ev") (ev_op (ev_pair ((em _ _ (ev_var rfl)).mono e) (e _ _ hp) (i := 1) (v := .int (x.2 : Nat)) ev_c rfl) ev_c (by walk_at "rv")) (rv_ne rfl))
  · simp at hb
    refine ⟨fun σ2 H3 => ∃ b : Int, σ2 = [some (.ref a), some (.int b)] ∧ Ex H H3 ∧ lastI s.made + 1 ≤ b ∧ b ≤ mendedI s.made x.2 ∧ (mendedI s.made x.2 - b).toNat < (mendedI s.made x.2 - _).toNat, fun σ2 H3 ⟨b', q1, q2, q3, q4, q5⟩ => ⟨_, q5, b', q1, q2, q3, q4, rfl⟩, ?_⟩
    have hne : b ≠ mendedI s.made x.2 := fun z => hb (by rw [z, b3])
    refine s_asg (ev_op (ev_var rfl) ev_c rv_I0) fun H3 e3 => ⟨b + 1, rfl, (e.trans e2).trans e3, by omega, by omega, by omega⟩
  · simp at hb
    have he : b = mendedI s.made x.2 := by omega
    refine s_ret (ev_var rfl) fun H3 e3 => ?_
    rw [he]
    exact k H3 ((e.trans e2).trans e3)
theorem cut_take (xs : List V) (n : Nat) : cutV xs none (some ((n : Nat) : Int)) = xs.take n := by
  unfold cutV
  have h0 : HT.sIx xs.length 0 none = 0 := by simp [HT.sIx]
  have h1 : HT.sIx xs.length xs.length (some ((n : Nat) : Int)) = min n xs.length := by
    simp [HT.sIx]
    omega
  rw [h0, h1, List.drop_zero]
  rw [Nat.sub_zero]
  rcases Nat.le_total n xs.length with q | q
  · rw [Nat.min_eq_left q]
  · rw [Nat.min_eq_right q, List.take_of_length_le (Nat.le_refl _), List.take_of_length_le q]
theorem pure_go_back (Z : Zs c) (vs : List V) (H : Hp) (Q : VK) (E : XK) (h : sp_go_back c vs H Q E) : t_go_back c { nx := fun _ H' => Q .non H', rt := Q } (start ["table", "count", "place", "made_count", "barred", "once", "waiting", "mending"] vs) H := by
  obtain ⟨a, A, s, hs, s', hs', z, T, ⟨n, rfl, hn, hl, hml, rfl, hk⟩, k⟩ := h
  obtain ⟨mv, hv, hmv⟩ := T.made
  obtain ⟨ps, hps, pp⟩ := T.past
  refine q_when (b := decide (V.int (n : Nat) = V.int 0)) (by walk_at "et") (fun hb H1 e1 => ?_) (fun hb H1 e1 => ?_)
  · have e0 : n = 0 := by simp at hb; omega
    rcases hk with ⟨_, rfl, rfl⟩ | ⟨t, ht, hp, _⟩
    · exact k H1 A (T.mono e1) (Keep.of_ex e1) fun x hx => .inl hx
    · omega
  have hn0 : n ≠ 0 := by simp at hb; omega
  obtain ⟨t, ht, h0, rfl, rfl⟩ : ∃ t, hs[hs.length - n]? = some t ∧ 0 < n ∧ s' = backTo s t ∧ hs' = hs.take (hs.length - n) := by
    rcases hk with ⟨q, _⟩ | q
    · omega
    · exact q
  have T1 := T.mono e1
  refine q_asg (v := .int (hs.length - n : Nat)) (ev_is (ev_op (ev_len (tv_past Z T1 (ev_var rfl)) (SqL.of (e1 _ _ hps))) (ev_var rfl) rv_I0) (by rw [pp.1]; congr 1; omega)) fun H2 e2 => ?_
  have e12 := e1.trans e2
  have T2 := T.mono e12
  obtain ⟨v, hv2, ⟨p, pb, po, w, m, rfl, q1, q2, q3, nb, no, hw, hm⟩⟩ := pp.2 _ t ht
  refine (ev_op (tv_past Z T2 (ev_var rfl)) (ev_var rfl) (rv_ixL (SqL.of (e12 _ _ hps)) (atI_nat hv2))) H2 (Ex.refl H2) _ fun H3 e3 => ?_
  have e := e12.trans e3
  refine ⟨p, _, rfl, SqT.of (e _ _ q1), rfl, _, _, rfl, _, _, rfl, _, _, rfl, _, _, rfl, _, _, rfl, rfl, ?_⟩
  have T3 := T.mono e
  obtain ⟨w0, m0, hd, _, _⟩ := T3.tab
  have ma : a ∈ [a] := List.mem_singleton.mpr rfl
  have na : ∀ {x : Addr} {vs : List V}, H x = some (.lst vs) → x ≠ a := fun {x vs} q z => T.a_ne q z.symm
  have m0a : Keep [a] H H3 := Keep.of_ex e
  have fr : ∀ {H' : Hp} {q : Addr}, Keep [a] H H' → H' a ≠ none → H' q = none → H q = none := fun {H' q} kk np hq => by
    cases e : H q with
    | none => rfl
    | some o =>
      by_cases z : q = a
      · rw [z] at hq
        exact absurd hq np
      · rw [kk q o e (by simpa using z)] at hq
        cases hq
  have ki : ∀ {H' H'' : Hp} {o : HO}, Keep [a] H H' → Ex H' H'' → Keep [a] H (upd H'' a o) := fun kk ee => (kk.trans (Keep.of_ex ee)).upd ma
  -- table.made = table.made[:made_count]
  show tSeq (sFld c.K (tVar 0) (tSl (rSlL c.K) (tFld c.K (tVar 0) "made") tNoPart (tPart (tVar 3))) "made") _ _ [some (V.ref a), some (.int (n : Nat)), some (.int (hs.length - n : Nat)), some (.int (t.made.length : Nat)), some (.ref pb), some (.ref po), some w, some m] H3
  have ez : cutV mv none (some ((t.made.length : Nat) : Int)) = mv.take t.made.length := cut_take mv _
  refine q_fldL (xs := mv.take t.made.length) (by
    rw [← ez]
    exact el_sl (tv_made Z T3 (ev_var rfl)) eo_none (eo_some (i := (t.made.length : Nat)) (ev_var rfl)) (SqL.of (e _ _ hv))) (ev_var rfl) hd Z.zT.cl (Z.zT.no _ (by simp)) (by show (8 : Nat) < 1000; decide) fun am H4 ham e4 h4 => ?_
  rw [put_made]
  have fam := fresh_back e ham
  have nam : am ≠ a := fun z => by rw [z, hd] at ham; cases ham
  have k4 := ki (o := .ins c.CT A.dx (tblFs s.dealer s.vul { A with am := am } w0 m0)) m0a e4
  -- table.barred = list(barred)
  refine q_fldL (xs := bools t.barred) (el_list (ev_var rfl) (SqL.of (k4 _ _ q2 (by simpa using na q2)))) (ev_var rfl) upd_same Z.zT.cl (Z.zT.no _ (by simp)) (by show (8 : Nat) < 1000; decide) fun ab H5 hab e5 h5 => ?_
  rw [put_barred]
  have fab := fr k4 (by rw [upd_same]; simp) hab
  have nab : ab ≠ a := fun z => by rw [z, upd_same] at hab; cases hab
  have m4 : upd H4 a (.ins c.CT A.dx (tblFs s.dealer s.vul { A with am := am } w0 m0)) am = some (.lst (mv.take t.made.length)) := by rw [upd_ne nam]; exact h4
  have n1 : am ≠ ab := ne_of_none m4 hab
  have k5 := ki (o := .ins c.CT A.dx (tblFs s.dealer s.vul { A with am := am, ab := ab } w0 m0)) k4 e5
  -- table.once = list(once)
  refine q_fldL (xs := bools t.once) (el_list (ev_var rfl) (SqL.of (k5 _ _ q3 (by simpa using na q3)))) (ev_var rfl) upd_same Z.zT.cl (Z.zT.no _ (by simp)) (by show (8 : Nat) < 1000; decide) fun ao H6 hao e6 h6 => ?_
  rw [put_once]
  have fao := fr k5 (by rw [upd_same]; simp) hao
  have nao : ao ≠ a := fun z => by rw [z, upd_same] at hao; cases hao
  have m5 : upd H5 a (.ins c.CT A.dx (tblFs s.dealer s.vul { A with am := am, ab := ab } w0 m0)) am = some (.lst (mv.take t.made.length)) := by rw [upd_ne nam]; exact e5 _ _ m4
  have b5 : upd H5 a (.ins c.CT A.dx (tblFs s.dealer s.vul { A with am := am, ab := ab } w0 m0)) ab = some (.lst (bools t.barred)) := by rw [upd_ne nab]; exact h5
  have n2 : am ≠ ao := ne_of_none m5 hao
  have n3 : ab ≠ ao := ne_of_none b5 hao
  have k6 := ki (o := .ins c.CT A.dx (tblFs s.dealer s.vul { A with am := am, ab := ab, ao := ao } w0 m0)) k5 e6
  -- table.waiting = waiting, table.mending = mending
  refine q_fld (y := w) (ev_var rfl) (ev_var rfl) upd_same Z.zT.cl (Z.zT.no _ (by simp)) (by show (8 : Nat) < 1000; decide) fun H7 e7 => ?_
  rw [put_waiting]
  have k7 := ki (o := .ins c.CT A.dx (tblFs s.dealer s.vul { A with am := am, ab := ab, ao := ao } w m0)) k6 e7
  refine q_fld (y := m) (ev_var rfl) (ev_var rfl) upd_same Z.zT.cl (Z.zT.no _ (by simp)) (by show (8 : Nat) < 1000; decide) fun H8 e8 => ?_
  rw [put_mending]
  have k8 := ki (o := .ins c.CT A.dx (tblFs s.dealer s.vul { A with am := am, ab := ab, ao := ao } w m)) k7 e8
  -- table.past = table.past[:place]
  have ez2 : cutV ps none (some ((hs.length - n : Nat) : Int)) = ps.take (hs.length - n) := cut_take ps _
  refine s_fldL (xs := ps.take (hs.length - n)) (by
    rw [← ez2]
    exact el_sl (ev_fld (ev_var rfl) upd_same Z.zT.cl (Z.zT.no _ (by simp)) lk_past) eo_none (eo_some (i := (hs.length - n : Nat)) (ev_var rfl)) (SqL.of (k8 _ _ hps (by simpa using na hps)))) (ev_var rfl) upd_same Z.zT.cl (Z.zT.no _ (by simp)) (by show (8 : Nat) < 1000; decide) fun ap H9 hap e9 h9 => ?_
  rw [put_past]
  have fap := fr k8 (by rw [upd_same]; simp) hap
  have nap : ap ≠ a := fun z => by rw [z, upd_same] at hap; cases hap
  have go : ∀ {x : Addr} {vs : List V}, x ≠ a → upd H6 a (.ins c.CT A.dx (tblFs s.dealer s.vul { A with am := am, ab := ab, ao := ao } w0 m0)) x = some (HO.lst vs) →
      upd H8 a (.ins c.CT A.dx (tblFs s.dealer s.vul { A with am := am, ab := ab, ao := ao } w m)) x = some (HO.lst vs) := fun {x vs} nx q => by
    rw [upd_ne nx]
    refine e8 _ _ ?_
    rw [upd_ne nx]
    exact e7 _ _ q
  have m8 := go nam (show _ = some (HO.lst (mv.take t.made.length)) by rw [upd_ne nam]; exact e6 _ _ m5)
  have b8 := go nab (show _ = some (HO.lst (bools t.barred)) by rw [upd_ne nab]; exact e6 _ _ b5)
  have o8 := go nao (show _ = some (HO.lst (bools t.once)) by rw [upd_ne nao]; exact h6)
  have n4 : am ≠ ap := ne_of_none m8 hap
  have n5 : ab ≠ ap := ne_of_none b8 hap
  have n6 : ao ≠ ap := ne_of_none o8 hap
  have k9 := ki (o := .ins c.CT A.dx (tblFs s.dealer s.vul ⟨A.dx, am, ab, ao, ap⟩ w m)) k8 e9
  have kt : ∀ b xs, H b = some (.tup xs) → upd H9 a (.ins c.CT A.dx (tblFs s.dealer s.vul ⟨A.dx, am, ab, ao, ap⟩ w m)) b = some (.tup xs) := fun b xs q => k9 _ _ q (by
    have : b ≠ a := fun z => by
      obtain ⟨w1, m1, hd1, _⟩ := T.tab
      rw [z, hd1] at q
      cases q
    simpa using this)
  have fl : ∀ x ∈ (⟨A.dx, am, ab, ao, ap⟩ : Ads).l, H x = none := fun x hx => by
    simp only [Ads.l, List.mem_cons, List.not_mem_nil, or_false] at hx
    rcases hx with rfl | rfl | rfl | rfl
    · exact fam
    · exact fab
    · exact fao
    · exact fap
  refine k _ ⟨A.dx, am, ab, ao, ap⟩ ⟨⟨w, m, upd_same, hw.keep kt, hm.keep kt⟩, ⟨mv.take t.made.length, ?_, (hmv.take _).keep kt⟩, ?_, ?_, ⟨ps.take (hs.length - n), ?_, ?_⟩, ?_⟩ (k9.mono (by simp)) fun x hx => .inr (fl x hx)
  · show upd H9 a _ am = _
    rw [upd_ne nam]
    exact e9 _ _ m8
  · show upd H9 a _ ab = _
    rw [upd_ne nab]
    exact e9 _ _ b8
  · show upd H9 a _ ao = _
    rw [upd_ne nao]
    exact e9 _ _ o8
  · show upd H9 a _ ap = _
    rw [upd_ne nap]
    exact h9
  · refine ⟨by simp [pp.1], fun i u hu => ?_⟩
    rw [List.getElem?_take] at hu ⊢
    split at hu
    · rename_i hi
      rw [if_pos hi]
      obtain ⟨v, hv1, hv2⟩ := pp.2 i u hu
      refine ⟨v, hv1, hv2.keep kt fun b xs nb q => ⟨k9 _ _ q (by simpa using na q), fun hx => ?_⟩⟩
      rw [fl b hx] at q
      cases q
    · cases hu
  · simp only [Ads.l, List.nodup_cons, List.mem_cons, List.not_mem_nil, or_false, not_or, not_false_eq_true, List.nodup_nil, and_true]
    exact ⟨⟨n1, n2, n4⟩, ⟨n3, n5⟩, n6⟩
theorem pure_make_call (Z : Zs c) (vs : List V) (H : Hp) (Q : VK) (E : XK) (h : sp_make_call c vs H Q E) : t_make_call c (sp_bar_partner c) sp_is_legal (sp_let_stand c) sp_may_stand (sp_mended_bid c) (sp_turn_of c) { nx := fun _ H' => Q .non H', rt := Q } (start ["table", "seat", "call"] vs) H := by
  obtain ⟨a, A, s, hs, s', hs', z, T, ⟨p, cc, rfl, hp, hc, hl, rfl, rfl, rfl⟩, k⟩ := h
  have eturn : ∀ σ H1, Ex H H1 → σ[0]? = some (some (V.ref a)) → Ev (tCall (sp_turn_of c) [] E0 (tCons (tVar 0) tNil)) σ H1 (.int (turnOf s : Nat)) := fun σ H1 e hσ => ev_call (ea_cons (ev_var hσ) ea_nil) (RetSp.sv fun H2 e2 => ⟨a, A, s, hs', rfl, T.mono (e.trans e2), rfl⟩)
  refine q_when (b := decide (0 < cc ∧ cc < 3 ∧ mayStand s.made p cc = false)) (et_is (et_and (a := decide (0 < cc ∧ cc < 3)) (et_is (et_test (ev_chain ev_c (ev_var rfl) rv_I0 ev_c rv_I0)) (by rw [Bool.eq_iff_iff]; simp; omega)) fun _ => et_not (et_B (ev_call (ea_cons (tv_made Z T (ev_var rfl)) (ea_cons (ev_var rfl) (ea_cons (ev_var rfl) ea_nil))) (sv_may_stand T.made)))) (by rw [Bool.eq_iff_iff]; simp; exact and_assoc)) (fun hb H1 e1 => ?_) (fun hb H1 e1 => ?_)
  · have hb := of_decide_eq_true hb
    unfold makeCall at k
    rw [if_pos hb] at k
    refine q_ch (ea_cons (ev_var rfl) (ea_cons (ev_var rfl) ea_nil)) (T.mono e1) ⟨p, rfl, hp, rfl, rfl, rfl⟩ fun H2 A' T2 k2 n2 => ?_
    refine s_ret ev_c fun H3 e3 => k H3 A' (T2.mono e3) (((Keep.of_ex e1).trans k2).trans (Keep.of_ex e3)) fun x hx => (n2 x hx).imp id fun q => fresh_back e1 q
  have hb := of_decide_eq_false hb
  unfold makeCall at k
  rw [if_neg hb] at k
  refine q_when (b := !decide (V.int (p : Nat) = V.int (turnOf s : Nat))) (et_test (ev_op (ev_var rfl) (eturn _ _ e1 rfl) (rv_ne rfl))) (fun hb2 H2 e2 => ?_) (fun hb2 H2 e2 => ?_)
  · have hb2 : p ≠ turnOf s := by simp at hb2; omega
    rw [if_pos hb2] at k
    have T2 := T.mono (e1.trans e2)
    obtain ⟨w, m, hd, hw, hm⟩ := T2.tab
    refine q_fldU (xs := [.int (p : Nat), .int (cc : Nat), .int 2]) (eu_tup (by walk_at "ea") (by show (3 : Nat) ≤ 100000; decide)) (ev_var rfl) hd Z.zT.cl (Z.zT.no _ (by simp)) (by show (8 : Nat) < 1000; decide) fun q H3 _ e3 hq => ?_
    rw [put_waiting]
    have T3 := (T2.mono e3).setWait (w' := .ref q) (x := some (2, p, cc)) (e3 _ _ hd) ⟨q, rfl, hq⟩
    refine s_ret ev_c fun H4 e4 => k H4 A (T3.mono e4) ((((Keep.of_ex ((e1.trans e2).trans e3)).upd (by simp))).trans (Keep.of_ex e4)) fun x hx => .inl hx
  have hb2 : ¬ p ≠ turnOf s := by simp at hb2; omega
  rw [if_neg hb2] at k
  have e12 := e1.trans e2
  have T2 := T.mono e12
  refine q_when (b := decide (3 ≤ cc ∧ legal s.made p cc = false)) (et_is (et_and (a := decide ((3 : Int) ≤ (cc : Nat))) (by walk_at "et") fun _ => et_not (et_B (ev_call (ea_cons (tv_made Z T2 (ev_var rfl)) (ea_cons (ev_var rfl) (ea_cons (ev_var rfl) ea_nil))) (sv_is_legal T2.made hc)))) (by rw [Bool.eq_iff_iff]; simp; intro _; omega)) (fun hb3 H3 e3 => ?_) (fun hb3 H3 e3 => ?_)
  · have hb3 := of_decide_eq_true hb3
    rw [if_pos hb3] at k
    have T3 := T2.mono e3
    obtain ⟨w, m, hd, hw, hm⟩ := T3.tab
    refine q_fldU (xs := [.int (p : Nat), .int (cc : Nat), .int 1]) (eu_tup (by walk_at "ea") (by show (3 : Nat) ≤ 100000; decide)) (ev_var rfl) hd Z.zT.cl (Z.zT.no _ (by simp)) (by show (8 : Nat) < 1000; decide) fun q H4 _ e4 hq => ?_
    rw [put_waiting]
    have T4 := (T3.mono e4).setWait (w' := .ref q) (x := some (1, p, cc)) (e4 _ _ hd) ⟨q, rfl, hq⟩
    refine s_ret ev_c fun H5 e5 => k H5 A (T4.mono e5) ((((Keep.of_ex ((e12.trans e3).trans e4)).upd (by simp))).trans (Keep.of_ex e5)) fun x hx => .inl hx
  have hb3 := of_decide_eq_false hb3
  rw [if_neg hb3] at k
  have e123 := e12.trans e3
  have T3 := T2.mono e3
  obtain ⟨m, hm, em⟩ := tv_mending Z T3
  have fin : ∀ (H4 : Hp) (A4 : Ads) (s4 : State), TabAt c H4 a A4 s4 hs' → s4.made = s.made → Keep (a :: A.l) H H4 → (∀ x ∈ A4.l, x ∈ A.l ∨ H x = none) →
      (∀ H' A', TabAt c H' a A' (stands s4 p cc) hs' → Keep (a :: A.l) H H' → (∀ x ∈ A'.l, x ∈ A.l ∨ H x = none) → Q (.int 0) H') →
      tSeq (tDrop (tCall (sp_let_stand c) [] E0 (tCons (tVar 0) (tCons (tVar 1) (tCons (tVar 2) tNil))))) (tRet (tC (.int 0))) { nx := fun _ H' => Q .non H', rt := Q } [some (.ref a), some (.int (p : Nat)), some (.int (cc : Nat))] H4 := fun H4 A4 s4 T4 em4 k4 n4 kk => by
    refine q_ch (ea_cons (ev_var rfl) (ea_cons (ev_var rfl) (ea_cons (ev_var rfl) ea_nil))) T4 ⟨p, cc, rfl, hp, by rw [em4]; exact hl, rfl, rfl, rfl⟩ fun H5 A5 T5 k5 n5 => ?_
    have k6 : Keep (a :: A.l) H H5 := k4.trans' k5 fun x hx => by
      rcases List.mem_cons.mp hx with r | r
      · exact .inl (by rw [r]; exact List.mem_cons_self)
      · exact (n4 x r).imp (fun q => List.mem_cons_of_mem _ q) id
    have n6 : ∀ x ∈ A5.l, x ∈ A.l ∨ H x = none := fun x hx => by
      rcases n5 x hx with r | r
      · exact n4 x r
      · cases q : H x with
        | none => exact .inr rfl
        | some o =>
          by_cases z : x ∈ a :: A.l
          · rcases List.mem_cons.mp z with y | y
            · obtain ⟨w, m, hd, _⟩ := T4.tab
              rw [y, hd] at r
              cases r
            · exact .inl y
          · rw [k4 x o q z] at r
            cases r
    exact s_ret ev_c fun H6 e6 => kk H6 A5 (T5.mono e6) (k6.trans (Keep.of_ex e6)) n6
  cases hmd : s.mend with
  | none =>
    rw [hmd] at hm k
    obtain rfl : m = .non := hm
    refine q_when (b := false) (et_and0 (et_test (ev_op (em _ _ (ev_var rfl)) ev_c rv_notN0))) (fun hb H4 e4 => by cases hb) (fun hb H4 e4 => ?_)
    exact fin H4 A s (T3.mono e4) rfl (Keep.of_ex (e123.trans e4)) (fun x hx => .inl hx) k
  | some x =>
    rw [hmd] at hm k
    dsimp only at k
    obtain ⟨q, rfl, hq⟩ := hm
    refine q_when (b := !decide (V.int ((cc : Nat) - 3 : Int) = V.int (mendedI s.made x.2))) (et_is (et_and (a := true) (et_test (ev_op (em _ _ (ev_var rfl)) ev_c rv_notNr)) fun _ => et_test (ev_op (ev_op (ev_var rfl) ev_c rv_I0) (ev_call (ea_cons (ev_var rfl) ea_nil) (RetSp.sv fun H5 e5 => ⟨a, A, s, hs', x, rfl, T3.mono e5, hmd, rfl⟩)) (rv_ne rfl))) (by simp)) (fun hb H4 e4 => ?_) (fun hb H4 e4 => ?_)
    · have hb : ¬ ((cc : Nat) : Int) - 3 = mendedI s.made x.2 := by simpa using hb
      rw [if_neg hb] at k
      refine s_ch (ea_cons (ev_var rfl) (ea_cons (ev_var rfl) ea_nil)) (T3.mono e4) ⟨p, rfl, hp, rfl, rfl, rfl⟩ fun H5 A5 T5 k5 n5 => ?_
      exact fin H5 A5 _ T5 rfl ((Keep.of_ex (e123.trans e4)).trans k5) (fun x hx => (n5 x hx).imp id fun q => fresh_back (e123.trans e4) q) k
    · have hb : ((cc : Nat) : Int) - 3 = mendedI s.made x.2 := by simpa using hb
      rw [if_pos hb] at k
      exact fin H4 A s (T3.mono e4) rfl (Keep.of_ex (e123.trans e4)) (fun x hx => .inl hx) k
theorem pure_decide_waiting (Z : Zs c) (vs : List V) (H : Hp) (Q : VK) (E : XK) (h : sp_decide_waiting c vs H Q E) : t_decide_waiting c (sp_bar_partner c) (sp_let_stand c) { nx := fun _ H' => Q .non H', rt := Q } (start ["table", "is_accepted", "seat", "call", "kind"] vs) H := by
  obtain ⟨a, A, s, hs, s', hs', z, T, ⟨y, kd, p, cc, rfl, hw0, hp, hk1, hl, rfl, eh, rfl⟩, k⟩ := h
  subst eh
  obtain ⟨w, hw, ew⟩ := tv_waiting Z T
  rw [hw0] at hw
  obtain ⟨q, rfl, hq⟩ := hw
  unfold decided at k
  rw [hw0] at k
  dsimp only at k
  refine q_asgG (ew _ _ (ev_var rfl)) fun H1 e1 => ?_
  refine ⟨q, _, rfl, SqT.of (e1 _ _ hq), rfl, _, _, rfl, _, _, rfl, _, _, rfl, rfl, ?_⟩
  have T1 := T.mono e1
  show tSeq (tIfS (tB (tVar 1)) _ _) _ _ [some (V.ref a), some (.bl y), some (.int (p : Nat)), some (.int (cc : Nat)), some (.int (kd : Nat))] H1
  refine q_when (b := y) (et_B (ev_var rfl)) (fun hb H2 e2 => ?_) (fun hb H2 e2 => ?_)
  · rw [if_pos hb] at k
    refine q_ch (ea_cons (ev_var rfl) (ea_cons (ev_var rfl) (ea_cons (ev_var rfl) ea_nil))) (T1.mono e2) ⟨p, cc, rfl, hp, hl, rfl, rfl, rfl⟩ fun H3 A3 T3 k3 n3 => ?_
    exact s_ret ev_c fun H4 e4 => k H4 A3 (T3.mono e4) (((Keep.of_ex (e1.trans e2)).trans k3).trans (Keep.of_ex e4)) fun x hx => (n3 x hx).imp id fun q => fresh_back (e1.trans e2) q
  have hyn : ¬ y = true := by rw [hb]; exact Bool.false_ne_true
  rw [if_neg hyn] at k
  have e12 := e1.trans e2
  have T2 := T1.mono e2
  obtain ⟨w, m, hd, hww, hm⟩ := T2.tab
  refine q_fld (y := .non) ev_c (ev_var rfl) hd Z.zT.cl (Z.zT.no _ (by simp)) (by show (8 : Nat) < 1000; decide) fun H3 e3 => ?_
  rw [put_waiting]
  have T3 := (T2.mono e3).setWait (w' := .non) (x := none) (e3 _ _ hd) rfl
  have k3 : Keep (a :: A.l) H _ := (Keep.of_ex (e12.trans e3)).upd (x := a) (o := .ins c.CT A.dx (tblFs s.dealer s.vul A .non m)) (by simp)
  have nn : ∀ x ∈ A.l, x ∈ A.l ∨ H x = none := fun x hx => .inl hx
  refine q_when (b := decide (V.int (kd : Nat) = V.int 1)) (by walk_at "et") (fun hb H4 e4 => ?_) (fun hb H4 e4 => ?_)
  · have hk : kd = 1 := by simp at hb; omega
    rw [if_pos hk] at k
    have T4 := T3.mono e4
    obtain ⟨w, m, hd, hww, hm⟩ := T4.tab
    refine q_fldU (xs := [.int (p : Nat), .int ((cc - 3 : Nat) : Int)]) (eu_tup (ea_cons (ev_var rfl) (ea_cons (ev_is (ev_op (ev_var rfl) ev_c rv_I0) (by have := hk1 hk; congr 1; omega)) ea_nil)) (by show (2 : Nat) ≤ 100000; decide)) (ev_var rfl) hd Z.zT.cl (Z.zT.no _ (by simp)) (by show (8 : Nat) < 1000; decide) fun q H5 _ e5 hq => ?_
    rw [put_mending]
    have T5 := (T4.mono e5).setMend (m' := .ref q) (x := some (p, cc - 3)) (e5 _ _ hd) ⟨q, rfl, hq⟩
    exact s_ret ev_c fun H6 e6 => k H6 A (T5.mono e6) (((k3.trans (Keep.of_ex (e4.trans e5))).upd (by simp)).trans (Keep.of_ex e6)) nn
  have hk : ¬ kd = 1 := by simp at hb; omega
  rw [if_neg hk] at k
  refine q_when (b := decide (V.int (cc : Nat) = V.int 0)) (by walk_at "et") (fun hb H5 e5 => ?_) (fun hb H5 e5 => ?_)
  · have hc : cc = 0 := by simp at hb; omega
    rw [if_pos hc] at k
    have T5 := T3.mono (e4.trans e5)
    refine q_setL (j := p) T5.once ev_c (tv_once Z T5 (ev_var rfl)) (ev_var rfl) (by show p < 4; omega) fun H6 e6 => ?_
    rw [bools_bar _ hp]
    have T6 := (T5.mono e6).setOnce (l := if s.once.contains p = true then s.once else s.once ++ [p])
    exact s_ret ev_c fun H7 e7 => k H7 A (T6.mono e7) (((k3.trans (Keep.of_ex ((e4.trans e5).trans e6))).upd (by simp)).trans (Keep.of_ex e7)) nn
  have hc : ¬ cc = 0 := by simp at hb; omega
  rw [if_neg hc] at k
  refine q_ch (ea_cons (ev_var rfl) (ea_cons (ev_var rfl) ea_nil)) (T3.mono (e4.trans e5)) ⟨p, rfl, hp, rfl, rfl, rfl⟩ fun H6 A6 T6 k6 n6 => ?_
  refine s_ret ev_c fun H7 e7 => k H7 A6 (T6.mono e7) (((k3.trans (Keep.of_ex (e4.trans e5))).trans k6).trans (Keep.of_ex e7)) fun x hx => (n6 x hx).imp id fun q => ?_
  have q' := fresh_back (e4.trans e5) q
  by_cases z : x = a
  · rw [z, upd_same] at q'
    cases q'
  · rw [upd_ne z] at q'
    exact fresh_back (e12.trans e3) q'
end G
namespace G
open Vbbrac

/-! ### a call's text -/
theorem callOf_text : ∀ c, c < 38 → callOfText (callText c) = some c := by decide +kernel
theorem strain_some {s k : Nat} (h : strainOf s = some k) : k ≤ 4 ∧ strainByte k = s := by
  unfold strainOf at h
  have e : ([67, 68, 72, 83, 78] : List Nat).findIdx? (fun x => x == s) = some k := h
  simp only [List.findIdx?_cons, List.findIdx?_nil] at e
  by_cases h1 : 67 = s
  · subst h1; simp at e; subst e; decide
  by_cases h2 : 68 = s
  · subst h2; simp at e; subst e; decide
  by_cases h3 : 72 = s
  · subst h3; simp at e; subst e; decide
  by_cases h4 : 83 = s
  · subst h4; simp at e; subst e; decide
  by_cases h5 : 78 = s
  · subst h5; simp at e; subst e; decide
  · simp [h1, h2, h3, h4, h5] at e
theorem callOf_some {w : Bytes} {c : Nat} (h : callOfText w = some c) : c < 38 ∧ callText c = w := by
  unfold callOfText at h
  split at h
  · cases h; decide
  · cases h; decide
  · cases h; decide
  · rename_i l s _
    split at h
    · rename_i hl
      cases q : strainOf s with
      | none => rw [q] at h; cases h
      | some k =>
        rw [q] at h
        obtain ⟨hk, hs⟩ := strain_some q
        have e : 3 + 5 * (l - 49) + k = c := Option.some.inj h
        subst e
        refine ⟨by omega, ?_⟩
        unfold callText
        rw [if_neg (by omega), if_neg (by omega), if_neg (by omega)]
        have e1 : 49 + (3 + 5 * (l - 49) + k - 3) / 5 = l := by omega
        have e2 : (3 + 5 * (l - 49) + k - 3) % 5 = k := by omega
        rw [e1, e2, hs]
    · cases h
  · cases h
theorem find_text : ∀ c, c < 38 → (List.range 38).find? (fun d => decide (callText d = callText c)) = some c := by decide +kernel
/-- the program's search -/
theorem callOf_find (w : Bytes) : callOfText w = (List.range 38).find? fun c => decide (callText c = w) := by
  cases h : callOfText w with
  | none =>
    symm
    rw [List.find?_eq_none]
    intro c hc
    simp only [List.mem_range] at hc
    simp only [decide_eq_true_eq]
    intro e
    have := callOf_text c hc
    rw [e, h] at this
    cases this
  | some c =>
    obtain ⟨hc, e⟩ := callOf_some h
    subst e
    exact (find_text c hc).symm
theorem callText_len (c : Nat) : 1 ≤ (callText c).length ∧ (callText c).length ≤ 2 := by
  unfold callText
  split
  · simp
  · split
    · simp
    · split <;> simp
theorem callText_noblank : ∀ c, c < 38 → 32 ∉ callText c := by decide +kernel

/-! ### words -/
theorem cut_ne (t : Bytes) : cut t ≠ [] := by
  induction t with
  | nil => simp [cut]
  | cons b r ih =>
    unfold cut
    split
    · simp
    · split
      · simp
      · simp
theorem cut_snoc (b : Nat) : ∀ (t : Bytes), cut (t ++ [b]) = if b = 32 then cut t ++ [[]] else (cut t).dropLast ++ [(cut t).getLastD [] ++ [b]]
  | [] => by
    by_cases h : b = 32
    · simp [cut, h]
    · simp [cut, h]
  | x :: r => by
    have ih := cut_snoc b r
    have hn := cut_ne r
    rw [List.cons_append]
    unfold cut
    by_cases hx : x = 32
    · rw [if_pos hx, if_pos hx, ih]
      by_cases h : b = 32
      · rw [if_pos h, if_pos h]
        rfl
      · rw [if_neg h, if_neg h]
        cases q : cut r with
        | nil => exact absurd q hn
        | cons w l => simp
    · rw [if_neg hx, if_neg hx, ih]
      cases q : cut r with
      | nil => exact absurd q hn
      | cons w l =>
        by_cases h : b = 32
        · rw [if_pos h, if_pos h]
          rfl
        · rw [if_neg h, if_neg h]
          cases l with
          | nil => simp
          | cons w2 l2 => simp
theorem cut_word : ∀ (w : Bytes) (r : Bytes), 32 ∉ w → cut (w ++ 32 :: r) = w :: cut r
  | [], r, _ => by simp [cut]
  | x :: w, r, h => by
    have hx : ¬ x = 32 := fun e => h (by rw [e]; exact List.mem_cons_self)
    have ih := cut_word w r fun m => h (List.mem_cons_of_mem _ m)
    show (if x = 32 then [] :: cut (w ++ 32 :: r) else match cut (w ++ 32 :: r) with
      | [] => [[x]]
      | w :: l => (x :: w) :: l) = _
    rw [if_neg hx, ih]
theorem cut_last : ∀ (w : Bytes), 32 ∉ w → cut w = [w]
  | [], _ => by simp [cut]
  | x :: w, h => by
    have hx : ¬ x = 32 := fun e => h (by rw [e]; exact List.mem_cons_self)
    have ih := cut_last w fun m => h (List.mem_cons_of_mem _ m)
    unfold cut
    rw [if_neg hx, ih]
theorem cut_joined : ∀ (ws : List Bytes), ws ≠ [] → (∀ w ∈ ws, 32 ∉ w) → cut (joined ws) = ws
  | [], h, _ => absurd rfl h
  | [w], _, h => cut_last w (h w (List.mem_singleton.mpr rfl))
  | w :: v :: r, _, h => by
    show cut (w ++ 32 :: joined (v :: r)) = _
    rw [cut_word w _ (h w List.mem_cons_self), cut_joined (v :: r) (by simp) fun x hx => h x (List.mem_cons_of_mem _ hx)]
theorem joined_nil {ws : List Bytes} (h : ∀ w ∈ ws, w ≠ []) (e : joined ws = []) : ws = [] := by
  cases ws with
  | nil => rfl
  | cons w r =>
    cases r with
    | nil => exact absurd e (h w List.mem_cons_self)
    | cons v r =>
      have e' : w ++ 32 :: joined (v :: r) = [] := e
      simp at e'

/-! ### numerals -/
theorem numeral_snoc (t : Bytes) (b : Nat) : numeral (t ++ [b]) = 10 * numeral t + (b - 48) := by
  unfold numeral
  rw [List.foldl_append]
  rfl
def oNum (t : Bytes) : Option Nat := if isNumeral t = true then some (numeral t) else none
end G
namespace G
open PySem PySem.Spec PyProof.Rows L2 Evl
open TL (numL numL_lt numL_step tl_num joinL tl tl_join join_eq tl_append)
open Vbbrac (callText callOfText cut joined isNumeral numeral decimal digits)

def nV (l : List Nat) : List V := l.map fun n => .int (n : Nat)
theorem nV_len (l : List Nat) : (nV l).length = l.length := List.length_map ..
theorem nV_ints (l : List Nat) : nV l = (l.map fun (n : Nat) => (n : Int)).map V.int := by unfold nV; rw [List.map_map]; rfl
theorem nV_get {l : List Nat} {i n : Nat} (h : l[i]? = some n) : (nV l)[i]? = some (.int (n : Nat)) := by unfold nV; rw [List.getElem?_map, h]; rfl
theorem nV_inv {l : List Nat} {i : Nat} {v : V} (h : (nV l)[i]? = some v) : ∃ n, l[i]? = some n ∧ v = .int (n : Nat) := by
  unfold nV at h
  rw [List.getElem?_map] at h
  cases e : l[i]? with
  | none => rw [e] at h; cases h
  | some n => rw [e] at h; exact ⟨n, rfl, (Option.some.inj h).symm⟩
theorem nV_append (l r : List Nat) : nV (l ++ r) = nV l ++ nV r := List.map_append ..
theorem cast_inj {l r : List Nat} (h : l.map (fun (n : Nat) => (n : Int)) = r.map fun (n : Nat) => (n : Int)) : l = r :=
  (List.map_inj_right (fun _ _ e => Int.ofNat.inj e)).mp h
def txt (l : List Nat) : Str := ⟨l.toArray⟩
theorem tl_txt (l : List Nat) : (txt l).cps.toList = l := by simp [txt]
theorem txt_of {x : Str} {l : List Nat} (h : x.cps.toList = l) : x = txt l := by
  unfold txt
  rw [← h]

section
variable {K : PySem.W.Frag} {σ : L2.St} {H : Hp} {te tl ta tb : TE} {t : TT}
/-- a comprehension over a text -/
theorem el_lcS {x : Str} {j : Nat} {vs : List Nat} (v : Nat → V) (h : Ev tl σ H (.str x)) (hz : x.cps.size ≤ 40000) (hw : ∀ x, wipe ((wipe σ vs).set j (some x)) vs = wipe σ vs)
    (he : ∀ (i c : Nat) H1, Ex H H1 → x.cps[i]? = some c → Ev te ((wipe σ vs).set j (some (.str ⟨#[c]⟩))) H1 (v i)) :
    EvL (tLc (iStr tl) (gName j) tYes te vs) σ H (given x.cps.size (fun _ => true) v) := fun H0 e Q q => h H0 e _ fun H1 e1 => ⟨x, rfl, fun Dl hD => by
  refine ⟨fun i m H' => m = x.cps.size - i ∧ i ≤ x.cps.size ∧ Cw H1 (fun _ => true) v Dl i H', ⟨_, rfl, Nat.zero_le _, hD, Ex.new hD, upd_same⟩, ?_⟩
  rintro i m H' ⟨rfl, hi, p⟩
  by_cases hlt : i < x.cps.size
  · refine .inr ⟨hlt, Cw H1 (fun _ => true) v Dl (i + 1), fun H2 p' => ⟨x.cps.size - (i + 1), by omega, rfl, hlt, p'⟩, fun y H2 hy => ?_⟩
    obtain ⟨rfl, cc, hc, rfl⟩ := hy
    refine ⟨hw _, cw_turn (t := tYes) p (by omega) (fun H3 e3 Q3 q3 => q3 H3 (Ex.refl H3)) fun _ => he i cc H1 (e.trans e1) hc⟩
  · have ei : i = x.cps.size := by omega
    subst ei
    exact .inl ⟨Nat.le_refl _, q Dl H' (fresh_back e1 p.1) (e1.trans p.2.1) p.2.2⟩⟩
theorem given_all (n : Nat) (v : Nat → V) : given n (fun _ => true) v = (List.range n).map v := by
  unfold given
  rw [List.filter_eq_self.mpr (by simp)]
/-- str(n) -/
theorem ev_str {n : Int} (ha : Ev ta σ H (.int n)) (hn : n.natAbs.log2 < 1920) : Ev (tCB rStrOf (tCons ta tNil)) σ H (.str (Str.ofString (toString n))) := fun H1 e Q q =>
  ha H1 e _ fun H2 e2 => ⟨n, rfl, hn, q H2 e2⟩
theorem rv_strAdd {x y : Str} (h : x.length + y.length ≤ 100000) : RV rStrAdd (.str x) (.str y) H (.str (x ++ y)) := fun H1 _ _ q => ⟨x, y, rfl, rfl, sz_of h, q H1 (Ex.refl H1)⟩
theorem ev_ord {x : Str} {n : Nat} (ha : Ev ta σ H (.str x)) (h1 : x.length = 1) (h2 : x.cps.getD 0 0 = n) : Ev (tCB rOrd (tCons ta tNil)) σ H (.int (n : Nat)) := fun H1 e Q q =>
  ha H1 e _ fun H2 e2 => ⟨x, rfl, h1, by rw [h2]; exact q H2 e2⟩
/-- an item of a new tuple -/
theorem ev_ixU {xs : List V} {i : Int} {v : V} (ha : EvU ta σ H xs) (hb : Ev tb σ H (.int i)) (hv : atI xs i = some v) : Ev (tOp (rIxT K) ta tb) σ H v := fun H1 e Q q =>
  ha H1 e _ fun p H2 _ e2 hp => hb H2 (e.trans e2) _ fun H3 e3 => ⟨p, xs, i, v, rfl, rfl, SqT.of (e3 _ _ hp), hv, q H3 (e2.trans e3)⟩
theorem ev_all {bs : List Bool} (h : EvL ta σ H (bs.map V.bl)) : Ev (tCB (rAll K) (tCons ta tNil)) σ H (.bl (bs.all id)) := fun H1 e Q q =>
  h H1 e _ fun p H2 _ e2 h2 => ⟨p, bs, rfl, SqL.of h2, q H2 e2⟩
/-- sep.join of a new list -/
theorem ev_join {a : Str} {ys : List Str} (ha : Ev ta σ H (.str a)) (hb : EvL tb σ H (ys.map V.str)) (hl : (ys.map (·.length)).sum + ys.length * a.length ≤ 100000) : Ev (tM1 (rJoin K) ta tb) σ H (.str (Txt.join a ys)) := fun H1 e Q q =>
  ha H1 e _ fun H2 e2 => ⟨⟨a, rfl⟩, hb H2 (e.trans e2) _ fun p H3 _ e3 hp => ⟨a, p, ys, rfl, rfl, .inl (SqL.of hp), by omega, q H3 (e2.trans e3)⟩⟩
end
theorem asg_ap {te : TE} {i : Nat} {tz : TS} {D : Ends} {σ : L2.St} {H : Hp} (h : te σ H fun v H1 => tz D (σ.set i (some v)) H1) : tSeq (tAsg te (gName i)) tz D σ H := h
theorem lst1_ap {ta : TE} {σ : L2.St} {H : Hp} {Q : VK} (h : ta σ H fun x H1 => ∀ p, H1 p = none → Q (.ref p) (upd H1 p (.lst [x]))) (mono : ∀ (Q1 Q2 : VK), (∀ v H1, Q1 v H1 → Q2 v H1) → ta σ H Q1 → ta σ H Q2) : tLst (tCons ta tNil) σ H Q :=
  mono _ _ (fun v H1 q => ⟨by show (1 : Nat) ≤ sizeLine; decide, q⟩) h
theorem decimal_eq : ∀ (k n : Nat), 0 < k → n < 10 ^ k → digits k n = numL n
  | 0, _, h, _ => absurd h (by omega)
  | k + 1, n, _, h => by
    show (if n < 10 then [48 + n] else digits k (n / 10) ++ [48 + n % 10]) = numL n
    by_cases q : n < 10
    · rw [if_pos q, numL_lt q]
    · rw [if_neg q, numL_step (by omega)]
      have hk : 0 < k := by
        cases k with
        | zero => simp at h; omega
        | succ k => omega
      rw [decimal_eq k (n / 10) hk (by rw [Nat.pow_succ] at h; omega)]
theorem tl_dec {n : Nat} (h : n < 10 ^ 60) : (Str.ofString (toString ((n : Nat) : Int))).cps.toList = decimal n := by
  unfold Vbbrac.decimal
  rw [decimal_eq 60 n (by omega) h]
  exact tl_num n
theorem joinL_eq : ∀ ws : List (List Nat), joinL [32] ws = joined ws
  | [] => rfl
  | [_] => rfl
  | w :: v :: r => by
    show w ++ ([32] ++ joinL [32] (v :: r)) = w ++ 32 :: joined (v :: r)
    rw [joinL_eq (v :: r)]
    rfl

/-! ### promises -/
def sp_text_of_call : Sp := RetSp fun vs _ z => ∃ c : Nat, vs = [.int (c : Nat)] ∧ c ≤ 37 ∧ z = .str (txt (callText c))
def sp_bytes_of : Sp := fun vs H Q _ => ∃ x : Str, vs = [.str x] ∧ x.cps.size ≤ 40000 ∧ RetL (nV x.cps.toList) H Q
def sp_bytes_of_auction (c : Cn) : Sp := fun vs H Q _ => ∃ (a : Addr) (l : List Nat), vs = [.ref a] ∧ SqL c.K H a (nV l) ∧ l.length ≤ 10000 ∧ (∀ x ∈ l, x ≤ 37) ∧ RetL (nV (joined (l.map callText))) H Q
def WordsAt (H : Hp) (p : Addr) (ws : List (List Nat)) : Prop := ∃ as : List Addr, H p = some (.lst (as.map V.ref)) ∧ as.length = ws.length ∧ ∀ (i : Nat) b w, as[i]? = some b → ws[i]? = some w → H b = some (.lst (nV w))
/-- the words of a text, all new lists -/
def WordsN (H H' : Hp) (p : Addr) (ws : List (List Nat)) : Prop := ∃ as : List Addr, H' p = some (.lst (as.map V.ref)) ∧ as.length = ws.length ∧ (∀ (i : Nat) b w, as[i]? = some b → ws[i]? = some w → H' b = some (.lst (nV w))) ∧ ∀ b ∈ as, H b = none
def sp_words_of (c : Cn) : Sp := fun vs H Q _ => ∃ (a : Addr) (t : List Nat), vs = [.ref a] ∧ SqL c.K H a (nV t) ∧ t.length ≤ 5000 ∧ ∀ p H', Ex H H' → H p = none → WordsN H H' p (if t = [] then [] else cut t) → Q (.ref p) H'
def sp_call_of_word (c : Cn) : Sp := RetSp fun vs H z => ∃ (a : Addr) (w : List Nat), vs = [.ref a] ∧ SqL c.K H a (nV w) ∧ z = oInt (callOfText w)
def sp_value_of_numeral (c : Cn) : Sp := RetSp fun vs H z => ∃ (a : Addr) (t : List Nat), vs = [.ref a] ∧ SqL c.K H a (nV t) ∧ z = oInt (oNum t)
def sp_are_bytes (c : Cn) : Sp := RetSp fun vs H z => ∃ (a : Addr) (t : List Int), vs = [.ref a] ∧ SqL c.K H a (t.map V.int) ∧ t.length ≤ 5000 ∧ z = .bl (Vbbrac.isBytes t)
section
variable {c : Cn} {H : Hp} {a : Addr}
theorem sv_text_of_call {n : Nat} (h : n ≤ 37) : SpV sp_text_of_call ([.int (n : Nat)] ++ []) H (.str (txt (callText n))) := RetSp.sv fun _ _ => ⟨n, rfl, h, rfl⟩
theorem sl_bytes_of {x : Str} (h : x.cps.size ≤ 40000) : SpL sp_bytes_of ([.str x] ++ []) H (nV x.cps.toList) := fun H1 e Q q E => ⟨x, rfl, h, fun p H2 hp e2 h2 => q p H2 hp e2 h2⟩
theorem sl_bytes_of_auction {l : List Nat} (hs : SqL c.K H a (nV l)) (h1 : l.length ≤ 10000) (h2 : ∀ x ∈ l, x ≤ 37) : SpL (sp_bytes_of_auction c) ([.ref a] ++ []) H (nV (joined (l.map callText))) := fun H1 e Q q E => ⟨a, l, rfl, ex_l e hs, h1, h2, fun p H2 hp e2 h2 => q p H2 hp e2 h2⟩
theorem sv_call_of_word {w : List Nat} (hs : SqL c.K H a (nV w)) : SpV (sp_call_of_word c) ([.ref a] ++ []) H (oInt (callOfText w)) := RetSp.sv fun H1 e => ⟨a, w, rfl, ex_l e hs, rfl⟩
theorem sv_value_of_numeral {t : List Nat} (hs : SqL c.K H a (nV t)) : SpV (sp_value_of_numeral c) ([.ref a] ++ []) H (oInt (oNum t)) := RetSp.sv fun H1 e => ⟨a, t, rfl, ex_l e hs, rfl⟩
theorem sv_are_bytes {t : List Int} (hs : SqL c.K H a (t.map V.int)) (h : t.length ≤ 5000) : SpV (sp_are_bytes c) ([.ref a] ++ []) H (.bl (Vbbrac.isBytes t)) := RetSp.sv fun H1 e => ⟨a, t, rfl, ex_l e hs, h, rfl⟩
end
end G
namespace G
open PySem PySem.Spec PyProof.Rows L2 Evl
open TL (numL numL_lt numL_step tl_num joinL tl tl_join join_eq tl_append)
open Vbbrac (callText callOfText cut joined isNumeral numeral decimal digits strainByte)
local macro_rules | `(tactic| walk_at "ea") => `(tactic| first
  | with_reducible exact ea_nil
  | ((with_reducible refine' ea_cons ?eah ?eat); (case eah => walk_at "ev"); (case eat => walk_at "ea")))
local macro_rules | `(tactic| walk_at "rv") => `(tactic| first
  | with_reducible exact rv_I0
  | with_reducible exact rv_isN0
  | with_reducible exact rv_isNr
  | with_reducible exact rv_isNi
  | with_reducible exact rv_notN0
  | with_reducible exact rv_notNr
  | with_reducible exact rv_notNi
  | with_reducible exact rv_isN
  | with_reducible exact rv_notN
  | ((with_reducible refine' rv_eq ?rve); (case rve => rfl))
  | ((with_reducible refine' rv_ne ?rve); (case rve => rfl))
  | ((with_reducible refine' rv_I ?rve); (case rve => first | (exact (by decide)) | ((try dsimp only); first | decide | omega))))
local macro_rules | `(tactic| walk_at "ev") => `(tactic| first
  | with_reducible assumption
  | ((with_reducible refine' ev_var ?e0); (case e0 => exact rfl))
  | with_reducible exact ev_c
  | ((with_reducible refine' ev_op ?e1 ?e2 ?e3); (case e1 => walk_at "ev"); (case e2 => walk_at "ev"); (case e3 => walk_at "rv"))
  | ((with_reducible refine' ev_un ?e1 ru_neg); (case e1 => walk_at "ev"))
  | ((with_reducible refine' ev_call ?ca ?cb); (case ca => walk_at "ea"); (case cb => walk_at "gsp"))
  | ((with_reducible refine' ev_chain ?e1 ?e2 ?e3 ?e4 ?e5); (case e1 => walk_at "ev"); (case e2 => walk_at "ev"); (case e3 => walk_at "rv"); (case e4 => walk_at "ev"); (case e5 => walk_at "rv"))
  | ((with_reducible refine' ev_notV ?e1); (case e1 => walk_at "ev"))
  | fail "ev")
local macro_rules | `(tactic| walk_at "et") => `(tactic| first
  | with_reducible assumption
  | ((with_reducible refine' et_test ?e1); (case e1 => walk_at "ev"))
  | ((with_reducible refine' et_B ?e1); (case e1 => walk_at "ev"))
  | ((with_reducible refine' et_and ?e1 (fun hqq => ?e2)); (case e1 => walk_at "et"); (case e2 => walk_at "et"))
  | ((with_reducible refine' et_or ?e1 (fun hqq => ?e2)); (case e1 => walk_at "et"); (case e2 => walk_at "et"))
  | ((with_reducible refine' et_not ?e1); (case e1 => walk_at "et"))
  | fail "et")
local macro_rules | `(tactic| walk_at "nx") => `(tactic| ((try dsimp only); refine nx_of ?_))
local macro_rules | `(tactic| walk_at "xset") => `(tactic| (refine' x_set ?xe ?xk; (case xe => walk_at "ev")))
local macro_rules | `(tactic| walk_at "xasg") => `(tactic| (refine' x_asg ?xe ?xk; (case xe => walk_at "ev")))
local macro_rules | `(tactic| walk_at "xret") => `(tactic| (refine' x_ret ?xe ?xk; (case xe => walk_at "ev")))
local macro_rules | `(tactic| walk_at "xwhen") => `(tactic| (refine' x_when ?xe ?xk ?xl; (case xe => walk_at "et")))
local macro_rules | `(tactic| walk_at "xif") => `(tactic| (refine' x_if ?xe ?xk ?xl; (case xe => walk_at "et")))
local macro_rules | `(tactic| walk_at "xif2") => `(tactic| (refine' x_if2 ?xe ?xk ?xl; (case xe => walk_at "et")))
local macro_rules | `(tactic| walk_at "gsp") => `(tactic| first
  | exact sv_text_of_call (by first | assumption | omega))
variable {c : Cn}
theorem pure_text_of_call (vs : List V) (H : Hp) (Q : VK) (E : XK) (h : sp_text_of_call vs H Q E) : t_text_of_call c { nx := fun _ H' => Q .non H', rt := Q } (start ["call", "bid"] vs) H := by
  obtain ⟨z, ⟨n, rfl, hn, rfl⟩, k⟩ := h
  refine StX.go (H := H) ?_
  refine' x_when ?xe ?xk ?xl
  case xe => walk_at "et"
  case xk =>
    intro hb
    have hb' : n = 0 ∨ n = 1 ∨ n = 2 := by simp at hb; omega
    refine x_ret (ev_ixU (xs := [.str "P", .str "X", .str "XX"]) (v := .str (txt (callText n))) (eu_tup (by walk_at "ea") (by show (3 : Nat) ≤ 100000; decide)) (ev_var (v := .int (n : Nat)) rfl) ?_) k
    rcases hb' with rfl | rfl | rfl
    · show some (V.str (Str.ofString "P")) = some (V.str (txt [80]))
      rw [show (Str.ofString "P") = txt [80] by decide +kernel]
    · show some (V.str (Str.ofString "X")) = some (V.str (txt [88]))
      rw [show (Str.ofString "X") = txt [88] by decide +kernel]
    · show some (V.str (Str.ofString "XX")) = some (V.str (txt [88, 88]))
      rw [show (Str.ofString "XX") = txt [88, 88] by decide +kernel]
  case xl =>
    intro hb
    have hb' : 3 ≤ n := by simp at hb; omega
    walk_at "xset"
    have e1 : (1 : Int) + ((n : Nat) - 3 : Int) / 5 = ((1 + (n - 3) / 5 : Nat) : Int) := by omega
    have h10 : 1 + (n - 3) / 5 < 10 := by omega
    have et : (Str.ofString (toString ((1 + (n - 3) / 5 : Nat) : Int))).cps.toList = [48 + (1 + (n - 3) / 5)] := by
      have q := tl_num (1 + (n - 3) / 5)
      rw [numL_lt h10] at q
      exact q
    have hlen : (Str.ofString (toString ((1 + (n - 3) / 5 : Nat) : Int))).length = 1 := by
      show (Str.ofString (toString ((1 + (n - 3) / 5 : Nat) : Int))).cps.size = 1
      rw [← Array.length_toList, et]
      rfl
    have hs : atI ("CDHSN" : Str).cps.toList (((n : Nat) - 3 : Int) % 5) = some (strainByte ((n - 3) % 5)) := by
      have q : ((n : Nat) - 3 : Int) % 5 = (((n - 3) % 5 : Nat) : Int) := by omega
      rw [q, show ("CDHSN" : Str).cps.toList = [67, 68, 72, 83, 78] by decide +kernel]
      have r : (n - 3) % 5 = 0 ∨ (n - 3) % 5 = 1 ∨ (n - 3) % 5 = 2 ∨ (n - 3) % 5 = 3 ∨ (n - 3) % 5 = 4 := by omega
      rcases r with r | r | r | r | r <;> rw [r] <;> rfl
    refine x_ret (ev_op (ev_str (n := ((1 + (n - 3) / 5 : Nat) : Int)) (ev_is (ev_op ev_c (ev_op (ev_var rfl) ev_c (rv_I ⟨by decide, by decide⟩)) rv_I0) (by rw [← e1])) (Nat.lt_of_le_of_lt (Nat.log2_le_self _) (by omega)))
      (ev_op (x := .str "CDHSN") ev_c (ev_op (ev_var rfl) ev_c (rv_I (by decide))) (rv_ixS (by show ("CDHSN" : Str).length ≤ 100000; decide +kernel) hs)) (rv_strAdd (by rw [hlen]; show 1 + 1 ≤ 100000; omega))) (ret_is k ?_)
    congr 1
    refine txt_of ?_
    show tl (_ ++ _) = _
    rw [tl_append]
    show (Str.ofString (toString ((1 + (n - 3) / 5 : Nat) : Int))).cps.toList ++ [strainByte ((n - 3) % 5)] = callText n
    rw [et]
    unfold callText
    rw [if_neg (by omega), if_neg (by omega), if_neg (by omega)]
    show [48 + (1 + (n - 3) / 5), _] = _
    congr 1
    omega
theorem pure_bytes_of (vs : List V) (H : Hp) (Q : VK) (E : XK) (h : sp_bytes_of vs H Q E) : t_bytes_of c { nx := fun _ H' => Q .non H', rt := Q } (start ["text", "sign"] vs) H := by
  obtain ⟨x, rfl, hx, k⟩ := h
  refine StX.go (H := H) (x_retL (xs := nV x.cps.toList) ?_ k)
  have q := el_lcS (σ := start ["text", "sign"] [.str x]) (tl := tVar 0) (te := tCB rOrd (tCons (tVar 1) tNil)) (j := 1) (vs := [1]) (H := H) (fun i => .int ((x.cps.toList.getD i 0 : Nat) : Int)) (ev_var rfl) hx (fun _ => rfl) fun i cc H1 e1 hc => by
    have e : x.cps.toList.getD i 0 = cc := by
      rw [List.getD_eq_getElem?_getD, ← Array.getElem?_toList] at *
      rw [hc]
      rfl
    rw [e]
    exact ev_ord (ev_var rfl) rfl rfl
  rw [given_all] at q
  have e : (List.range x.cps.size).map (fun i => V.int ((x.cps.toList.getD i 0 : Nat) : Int)) = nV x.cps.toList := by
    refine List.ext_getElem? fun i => ?_
    rw [List.getElem?_map]
    unfold nV
    rw [List.getElem?_map]
    by_cases hi : i < x.cps.size
    · rw [List.getElem?_range hi, List.getElem?_eq_getElem (l := x.cps.toList) (by simpa using hi)]
      show some (V.int ((x.cps.toList.getD i 0 : Nat) : Int)) = _
      rw [List.getD_eq_getElem?_getD, List.getElem?_eq_getElem (l := x.cps.toList) (by simpa using hi)]
      rfl
    · rw [List.getElem?_eq_none (by simpa using hi), List.getElem?_eq_none (by simpa using hi)]
      rfl
  rw [e] at q
  exact q
theorem pure_bytes_of_auction (vs : List V) (H : Hp) (Q : VK) (E : XK) (h : sp_bytes_of_auction c vs H Q E) : t_bytes_of_auction c sp_bytes_of sp_text_of_call { nx := fun _ H' => Q .non H', rt := Q } (start ["calls", "call"] vs) H := by
  obtain ⟨a, l, rfl, hs, hl, hc, k⟩ := h
  have q := el_lcL (K := c.K) (σ := start ["calls", "call"] [.ref a]) (H := H) (tl := tVar 0) (te := tCall sp_text_of_call [] E0 (tCons (tVar 1) tNil)) (t := tYes) (j := 1) (vs := [1]) (fun _ => true) (fun i => .str (txt (callText (l.getD i 0)))) (ev_var rfl) hs (by rw [nV_len]; omega) (fun _ => rfl) (fun i x H1 _ _ H2 _ Q2 q2 => q2 H2 (Ex.refl H2)) fun i x H1 e1 hx _ => by
    obtain ⟨n, hn, rfl⟩ := nV_inv hx
    have e : l.getD i 0 = n := by rw [List.getD_eq_getElem?_getD, hn]; rfl
    rw [e]
    exact ev_call (ea_cons (ev_var rfl) ea_nil) (sv_text_of_call (hc n (List.mem_of_getElem? hn)))
  rw [given_all] at q
  have e : (List.range (nV l).length).map (fun i => V.str (txt (callText (l.getD i 0)))) = ((l.map callText).map txt).map V.str := by
    refine List.ext_getElem? fun i => ?_
    rw [List.getElem?_map, List.getElem?_map, List.getElem?_map, List.getElem?_map, nV_len]
    by_cases hi : i < l.length
    · rw [List.getElem?_range hi, List.getElem?_eq_getElem hi]
      show some (V.str (txt (callText (l.getD i 0)))) = _
      rw [List.getD_eq_getElem?_getD, List.getElem?_eq_getElem hi]
      rfl
    · rw [List.getElem?_eq_none (by simpa using hi), List.getElem?_eq_none (by simpa using hi)]
      rfl
  rw [e] at q
  have hlen : ∀ (m : List Nat), (((m.map callText).map txt).map (·.length)).sum + ((m.map callText).map txt).length * 1 ≤ 3 * m.length := by
    intro m
    induction m with
    | nil => simp
    | cons x r ih =>
      have h2 := (callText_len x).2
      have e1 : (txt (callText x)).length = (callText x).length := by simp [txt, Str.length]
      simp only [List.map_cons, List.sum_cons, List.length_cons, e1] at ih ⊢
      omega
  have htl : (Txt.join " " ((l.map callText).map txt)).cps.toList = joined (l.map callText) := by
    rw [join_eq]
    show tl (Str.join _ _) = _
    rw [tl_join, show tl (Str.ofString " ") = [32] by decide +kernel, joinL_eq, List.map_map]
    congr 1
    conv => rhs; rw [← List.map_id (l.map callText)]
    exact List.map_congr_left fun x _ => tl_txt x
  have hjl : ∀ ws : List (List Nat), (∀ w ∈ ws, w.length ≤ 2) → (joined ws).length ≤ 3 * ws.length := by
    intro ws
    induction ws with
    | nil => intro _; simp [joined]
    | cons w r ih =>
      intro hw
      have h1 := hw w List.mem_cons_self
      have h2 := ih fun x hx => hw x (List.mem_cons_of_mem _ hx)
      cases r with
      | nil => show w.length ≤ _; simp; omega
      | cons v r =>
        show (w ++ 32 :: joined (v :: r)).length ≤ _
        simp only [List.length_append, List.length_cons] at h2 ⊢
        omega
  have hsz : (Txt.join " " ((l.map callText).map txt)).cps.size ≤ 40000 := by
    rw [← Array.length_toList, htl]
    have := hjl (l.map callText) (fun w hw => by obtain ⟨x, _, rfl⟩ := List.mem_map.mp hw; exact (callText_len x).2)
    rw [List.length_map] at this
    omega
  refine StX.go (H := H) (x_retL (xs := nV (joined (l.map callText))) ?_ k)
  refine el_call (ea_cons (ev_join (a := " ") (ys := (l.map callText).map txt) ev_c q (by
    have := hlen l
    show _ + _ * 1 ≤ _
    omega)) ea_nil) ?_
  rw [← htl]
  exact sl_bytes_of hsz
/-- words under way: new lists, all different -/
structure WordsM (H H' : Hp) (p : Addr) (ws : List (List Nat)) (as : List Addr) : Prop where
  ex : Ex H H'
  new : H p = none
  lst : H' p = some (.lst (as.map V.ref))
  len : as.length = ws.length
  at_ : ∀ (i : Nat) b w, as[i]? = some b → ws[i]? = some w → H' b = some (.lst (nV w))
  fr : ∀ b ∈ as, H b = none
  np : p ∉ as
  nd : as.Nodup
theorem WordsM.mono {H H' H2 : Hp} {p : Addr} {ws : List (List Nat)} {as : List Addr} (w : WordsM H H' p ws as) (e : Ex H' H2) : WordsM H H2 p ws as :=
  ⟨w.ex.trans e, w.new, e _ _ w.lst, w.len, fun i b x h1 h2 => e _ _ (w.at_ i b x h1 h2), w.fr, w.np, w.nd⟩
theorem WordsM.push {H H' : Hp} {p q : Addr} {ws : List (List Nat)} {as : List Addr} (w : WordsM H H' p ws as) (hq : H' q = some (.lst [])) (fq : H q = none) (nq : q ≠ p) (na : q ∉ as) : WordsM H (upd H' p (.lst (as.map V.ref ++ [.ref q]))) p (ws ++ [[]]) (as ++ [q]) := by
  refine ⟨w.ex.mut w.new, w.new, by rw [upd_same, List.map_append]; rfl, by simp [w.len], fun i b x h1 h2 => ?_, fun b hb => ?_, ?_, ?_⟩
  · by_cases hi : i < as.length
    · rw [List.getElem?_append_left hi] at h1
      rw [List.getElem?_append_left (by rw [← w.len]; exact hi)] at h2
      have nb : b ≠ p := fun e => w.np (by rw [← e]; exact List.mem_of_getElem? h1)
      rw [upd_ne nb]
      exact w.at_ i b x h1 h2
    · rw [List.getElem?_append_right (by omega)] at h1
      rw [List.getElem?_append_right (by rw [← w.len]; omega), ← w.len] at h2
      have e0 : i - as.length = 0 := by
        cases z : i - as.length with
        | zero => rfl
        | succ n => rw [z] at h1; simp at h1
      rw [e0] at h1 h2
      simp at h1 h2
      subst h1 h2
      rw [upd_ne nq]
      exact hq
  · rcases List.mem_append.mp hb with h | h
    · exact w.fr b h
    · rw [List.mem_singleton.mp h]
      exact fq
  · intro h
    rcases List.mem_append.mp h with h | h
    · exact w.np h
    · exact nq (List.mem_singleton.mp h).symm
  · rw [List.nodup_append]
    refine ⟨w.nd, by simp, fun x hx y hy e => na ?_⟩
    rw [List.mem_singleton.mp hy] at e
    rw [← e]
    exact hx
theorem WordsM.last {H H' : Hp} {p q : Addr} {ws : List (List Nat)} {as : List Addr} {n : Nat} (w : WordsM H H' p ws as) (hl : as.getLast? = some q) (hw : ws ≠ []) :
    H' q = some (.lst (nV (ws.getLastD []))) ∧ WordsM H (upd H' q (.lst (nV (ws.getLastD []) ++ [.int (n : Nat)]))) p (ws.dropLast ++ [ws.getLastD [] ++ [n]]) as := by
  have hlen : 0 < ws.length := List.length_pos_iff.mpr hw
  have hal : as.length = ws.length := w.len
  have hq : as[as.length - 1]? = some q := by rw [← hl, List.getLast?_eq_getElem?]
  have hwl : ws[ws.length - 1]? = some (ws.getLastD []) := by
    rw [List.getLastD_eq_getLast?, List.getLast?_eq_getElem?]
    rw [List.getElem?_eq_getElem (by omega)]
    rfl
  have h0 := w.at_ (as.length - 1) q (ws.getLastD []) hq (by rw [hal]; exact hwl)
  refine ⟨h0, w.ex.mut (w.fr q (List.mem_of_getElem? hq)), w.new, ?_, ?_, fun i b x h1 h2 => ?_, w.fr, w.np, w.nd⟩
  · rw [upd_ne (fun e => w.np (by rw [e]; exact List.mem_of_getElem? hq))]
    exact w.lst
  · simp [hal]
    omega
  · by_cases hi : i < ws.length - 1
    · rw [List.getElem?_append_left (by simpa using hi), List.getElem?_dropLast, if_pos hi] at h2
      have nb : b ≠ q := fun e => by
        subst e
        have := nd_ix w.nd h1 hq
        omega
      rw [upd_ne nb]
      exact w.at_ i b x h1 h2
    · have hi2 : i = as.length - 1 := by
        have := (List.getElem?_eq_some_iff.mp h1).1
        omega
      subst hi2
      rw [hq] at h1
      obtain rfl := Option.some.inj h1
      rw [List.getElem?_append_right (by simp; omega)] at h2
      simp [hal] at h2
      subst h2
      rw [upd_same, nV_append, ← List.getLastD_eq_getLast?]
      rfl
theorem pure_words_of (vs : List V) (H : Hp) (Q : VK) (E : XK) (h : sp_words_of c vs H Q E) : t_words_of c { nx := fun _ H' => Q .non H', rt := Q } (start ["numbers", "words", "byte"] vs) H := by
  obtain ⟨a, t, rfl, hs, hl, k⟩ := h
  have e0 : EvT (tTest (tOp (rEqD c.K) (tVar 0) (tLst tNil))) (start ["numbers", "words", "byte"] [.ref a]) H (decide (t = [])) := by
    refine et_is (et_test (ev_opL (x := .ref a) (xs := []) (ev_var rfl) (el_lst ea_nil (by decide)) fun p H1 hp e => by
      rw [nV_ints] at hs
      exact rv_eqInts (r := []) (ex_l e hs) (SqL.of hp))) ?_
    cases t <;> simp
  refine q_when e0 (fun hb H1 e1 => ?_) (fun hb H1 e1 => ?_)
  · refine s_retL (el_lst ea_nil (by decide)) fun p H2 hp e2 h2 => k p H2 (e1.trans e2) (fresh_back e1 hp) ?_
    rw [if_pos (of_decide_eq_true hb)]
    exact ⟨[], h2, rfl, (fun i b w h => by cases h), (fun b hb => by cases hb)⟩
  have ht : t ≠ [] := of_decide_eq_false hb
  rw [if_neg ht] at k
  -- words = [[]]
  refine asg_ap (lst1_ap ?_ (fun Q1 Q2 hm h => ⟨h.1, fun p hp => hm _ _ (h.2 p hp)⟩))
  refine (el_lst (H := H1) (σ := start ["numbers", "words", "byte"] [.ref a]) ea_nil (by decide)) H1 (Ex.refl H1) _ fun q H2 hq e2 h2 => ?_
  refine fun p hp => ?_
  have fq := fresh_back e1 hq
  have fp := fresh_back (e1.trans e2) hp
  have npq : q ≠ p := ne_of_none h2 hp
  have W0 : WordsM H (upd H2 p (.lst [.ref q])) p [[]] [q] := by
    refine ⟨(e1.trans e2).mut fp, fp, upd_same, rfl, fun i b w h1 h2' => ?_, fun b hb => by rw [List.mem_singleton.mp hb]; exact fq, fun h => npq (List.mem_singleton.mp h).symm, by simp⟩
    cases i with
    | zero =>
      simp at h1 h2'
      subst h1 h2'
      rw [upd_ne npq]
      exact h2
    | succ i => simp at h1
  show tSeq (tFor _ _ _) _ _ [some (V.ref a), some (.ref p), none] _
  refine q_forLn (a := a) (xs := nV t) (ev_var rfl) (ex_l W0.ex hs) (fun i σ' H' => ∃ y as, σ' = [some (V.ref a), some (.ref p), y] ∧ WordsM H H' p (cut (t.take i)) as) (fun H3 e3 => ⟨none, [q], rfl, W0.mono e3⟩) (fun i σ' H' _ ⟨_, _, _, W⟩ => ex_l W.ex hs) ?_ ?_
  · rintro i x σ' H' hx ⟨y, as, rfl, W⟩
    obtain ⟨n, hn, rfl⟩ := nV_inv hx
    have et : t.take (i + 1) = t.take i ++ [n] := by
      rw [List.take_add_one, hn]
      rfl
    have ec := cut_snoc n (t.take i)
    rw [← et] at ec
    have hwl : (cut (t.take (i))).length ≤ i + 1 := by
      have : ∀ s : List Nat, (cut s).length ≤ s.length + 1 := by
        intro s
        induction s with
        | nil => simp [cut]
        | cons b r ih =>
          unfold cut
          split
          · simp; omega
          · split
            · simp
            · rename_i w l q
              rw [q] at ih
              simp at ih ⊢
              omega
      have h := this (t.take i)
      rw [List.length_take] at h
      omega
    have hi : i < t.length := (List.getElem?_eq_some_iff.mp hn).1
    refine s_if (b := decide (V.int (n : Nat) = V.int 32)) (by walk_at "et") (fun hb H3 e3 => ?_) (fun hb H3 e3 => ?_)
    · have hn' : n = 32 := by simp at hb; omega
      rw [if_pos hn'] at ec
      have W3 := W.mono e3
      refine s_appL W3.lst (ev_var rfl) (el_lst ea_nil (by decide)) (by rw [List.length_map, W.len]; omega) fun q2 H4 hq2 e4 h4 => ?_
      have W4 := W3.mono e4
      refine ⟨_, as ++ [q2], rfl, ?_⟩
      rw [ec]
      refine W4.push h4 (fresh_back W3.ex hq2) (fun e => by rw [e, W3.lst] at hq2; cases hq2) fun hm => ?_
      obtain ⟨j, hj⟩ := List.mem_iff_getElem?.mp hm
      have hjl : j < (cut (t.take i)).length := by rw [← W.len]; exact (List.getElem?_eq_some_iff.mp hj).1
      have := W3.at_ j q2 _ hj (List.getElem?_eq_getElem hjl)
      rw [this] at hq2
      cases hq2
    · have hn' : ¬ n = 32 := by simp at hb; omega
      rw [if_neg hn'] at ec
      have W3 := W.mono e3
      have hne := cut_ne (t.take i)
      have hal : 0 < as.length := by rw [W.len]; exact List.length_pos_iff.mpr hne
      have hlast : as.getLast? = some (as.getLast (List.length_pos_iff.mp hal)) := List.getLast?_eq_getLast _
      generalize as.getLast (List.length_pos_iff.mp hal) = q2 at hlast
      obtain ⟨hq2, _⟩ := W3.last (n := n) hlast hne
      have hz : atI (as.map V.ref) (-1) = some (V.ref q2) := by
        unfold atI ixN
        rw [List.length_map]
        rw [List.getLast?_eq_getElem?] at hlast
        have e1 : ¬ (0 : Int) ≤ -1 := by omega
        simp [e1]
        have e2 : (-1 + (as.length : Int)).toNat = as.length - 1 := by omega
        rw [if_pos (by omega), e2]
        show (as[as.length - 1]?).map V.ref = _
        rw [hlast]
        rfl
      refine s_app hq2 (ev_op (ev_var rfl) (ev_un ev_c ru_neg) (rv_ixL (SqL.of W3.lst) hz)) (ev_var rfl) ?_ fun H4 e4 => ?_
      · have hsum : ∀ s : List Nat, ((cut s).getLastD []).length ≤ s.length := by
          intro s
          induction s with
          | nil => simp [cut]
          | cons b r ih =>
            unfold cut
            split
            · cases z : cut r with
              | nil => exact absurd z (cut_ne r)
              | cons w l =>
                rw [z] at ih
                simp [List.getLastD] at ih ⊢
                omega
            · split
              · simp
              · rename_i w l z
                rw [z] at ih
                cases l with
                | nil => simp [List.getLastD] at ih ⊢; omega
                | cons w2 l2 => simp [List.getLastD] at ih ⊢; omega
        have := hsum (t.take i)
        rw [nV_len]
        rw [List.length_take] at this
        omega
      · refine ⟨_, as, rfl, ?_⟩
        rw [ec]
        exact ((W3.mono e4).last (n := n) hlast hne).2
  · rintro σ' H' ⟨y, as, rfl, W⟩
    rw [nV_len, List.take_length] at W
    refine s_ret (ev_var rfl) fun H3 e3 => ?_
    have W3 := W.mono e3
    exact k p H3 W3.ex fp ⟨as, W3.lst, W3.len, W3.at_, W3.fr⟩
theorem pure_call_of_word (vs : List V) (H : Hp) (Q : VK) (E : XK) (h : sp_call_of_word c vs H Q E) : t_call_of_word c sp_bytes_of sp_text_of_call { nx := fun _ H' => Q .non H', rt := Q } (start ["word", "call"] vs) H := by
  obtain ⟨z, ⟨a, w, rfl, hs, rfl⟩, k⟩ := h
  refine q_forR1 (n := 38) (ea_cons ev_c ea_nil) (by omega) (fun i σ' H' => ∃ y, σ' = [some (V.ref a), y] ∧ Ex H H' ∧ ∀ j, j < i → callText j ≠ w) (fun H1 e1 => ⟨none, rfl, e1, fun j h => by omega⟩) ?_ ?_
  · rintro i σ' H' hi ⟨y, rfl, e, hno⟩
    have hi' : i < 38 := by omega
    have hbs : (txt (callText i)).cps.size ≤ 40000 := by
      have := (callText_len i).2
      show (txt (callText i)).cps.size ≤ _
      rw [← Array.length_toList, tl_txt]
      omega
    have hL := sl_bytes_of (H := H') hbs
    rw [tl_txt] at hL
    have et : EvT (tTest (tOp (rEqD c.K) (tCall sp_bytes_of [] E0 (tCons (tCall sp_text_of_call [] E0 (tCons (tVar 1) tNil)) tNil)) (tVar 0))) [some (V.ref a), some (.int (i : Nat))] H' (decide (callText i = w)) := by
      refine et_is (et_test (ev_opL1 (xs := nV (callText i)) (y := .ref a) (el_call (ea_cons (ev_call (ea_cons (ev_var rfl) ea_nil) (sv_text_of_call (by omega))) ea_nil) hL) (fun H1 e1 => ev_var rfl) fun p H1 hp e1 => by
        rw [nV_ints] at hp
        have hs' := ex_l (e.trans e1) hs
        rw [nV_ints] at hs'
        exact rv_eqInts (SqL.of hp) hs')) ?_
      rw [Bool.eq_iff_iff]
      simp only [decide_eq_true_eq]
      exact ⟨cast_inj, fun q => by rw [q]⟩
    refine s_when et (fun hb H1 e1 => ?_) (fun hb H1 e1 => ?_)
    · refine s_ret (ev_var rfl) fun H2 e2 => ?_
      have hw := of_decide_eq_true hb
      have hc := callOf_text i hi'
      rw [hw] at hc
      rw [hc] at k
      exact k H2 ((e.trans e1).trans e2)
    · refine ⟨_, rfl, e.trans e1, fun j hj => ?_⟩
      by_cases q : j = i
      · rw [q]
        exact of_decide_eq_false hb
      · exact hno j (by omega)
  · rintro σ' H' ⟨y, rfl, e, hno⟩
    refine s_ret ev_c fun H2 e2 => ?_
    have hc : callOfText w = none := by
      cases q : callOfText w with
      | none => rfl
      | some n =>
        obtain ⟨h1, h2⟩ := callOf_some q
        exact absurd h2 (hno n h1)
    rw [hc] at k
    exact k H2 (e.trans e2)
theorem pure_value_of_numeral (vs : List V) (H : Hp) (Q : VK) (E : XK) (h : sp_value_of_numeral c vs H Q E) : t_value_of_numeral c { nx := fun _ H' => Q .non H', rt := Q } (start ["numbers", "value", "byte"] vs) H := by
  obtain ⟨z, ⟨a, t, rfl, hs, rfl⟩, k⟩ := h
  refine q_asg (v := .int 0) ev_c fun H1 e1 => ?_
  refine q_forLn (a := a) (xs := nV t) (ev_var rfl) (ex_l e1 hs) (fun i σ' H' => ∃ y, σ' = [some (V.ref a), some (.int (numeral (t.take i) : Nat)), y] ∧ Ex H H' ∧ ∀ b ∈ t.take i, 48 ≤ b ∧ b ≤ 57) (fun H2 e2 => ⟨none, rfl, e1.trans e2, fun b hb => by simp at hb⟩) (fun i σ' H' _ ⟨_, _, e, _⟩ => ex_l e hs) ?_ ?_
  · rintro i x σ' H' hx ⟨y, rfl, e, hd⟩
    obtain ⟨n, hn, rfl⟩ := nV_inv hx
    have et : t.take (i + 1) = t.take i ++ [n] := by
      rw [List.take_add_one, hn]
      rfl
    refine q_when (b := !(decide ((48 : Int) ≤ (n : Nat)) && decide (((n : Nat) : Int) ≤ 57))) (by walk_at "et") (fun hb H2 e2 => ?_) (fun hb H2 e2 => ?_)
    · refine s_ret ev_c fun H3 e3 => ?_
      have hf : isNumeral t = false := by
        unfold Vbbrac.isNumeral
        have : (t.all fun b => decide (48 ≤ b) && decide (b ≤ 57)) = false := by
          rw [List.all_eq_false]
          refine ⟨n, List.mem_of_getElem? hn, ?_⟩
          simp at hb ⊢
          omega
        rw [this]
        simp
      unfold oNum at k
      rw [hf] at k
      exact k H3 ((e.trans e2).trans e3)
    · have hb' : 48 ≤ n ∧ n ≤ 57 := by simp at hb; omega
      refine s_asg (v := .int (numeral (t.take (i + 1)) : Nat)) (ev_is (ev_op (ev_op (ev_op ev_c (ev_var rfl) (rv_I (.inl ⟨by decide, by decide⟩))) (ev_var rfl) rv_I0) ev_c rv_I0) ?_) fun H3 e3 => ⟨_, rfl, (e.trans e2).trans e3, fun b hb2 => ?_⟩
      · rw [et, numeral_snoc]
        congr 1
        omega
      · rw [et] at hb2
        rcases List.mem_append.mp hb2 with q | q
        · exact hd b q
        · rw [List.mem_singleton.mp q]
          exact hb'
  · rintro σ' H' ⟨y, rfl, e, hd⟩
    rw [nV_len, List.take_length] at *
    have hs' := ex_l e hs
    have e0 : EvT (tTest (tOp (rEqD c.K) (tVar 0) (tLst tNil))) [some (V.ref a), some (.int (numeral t : Nat)), y] H' (decide (t = [])) := by
      refine et_is (et_test (ev_opL (x := .ref a) (xs := []) (ev_var rfl) (el_lst ea_nil (by decide)) fun p H1 hp e => by
        rw [nV_ints] at hs'
        exact rv_eqInts (r := []) (ex_l e hs') (SqL.of hp))) ?_
      cases t <;> simp
    refine q_when (b := decide (t = [] ∨ (1 < t.length ∧ t.head? = some 48))) (et_is (et_or e0 fun ht => et_and (a := decide ((1 : Int) < (t.length : Nat))) (et_test (ev_is (ev_op (ev_len (ev_var rfl) hs') ev_c rv_I0) (by rw [nV_len]))) fun _ => et_test (b := decide (V.int (t.headD 0 : Nat) = V.int 48)) (ev_op (ev_op (x := .ref a) (y := .int 0) (z := .int (t.headD 0 : Nat)) (ev_var rfl) ev_c (rv_ixL hs' ?_)) ev_c (rv_eq rfl))) ?_) (fun hb H2 e2 => ?_) (fun hb H2 e2 => ?_)
    · cases t with
      | nil => simp at ht
      | cons x r => exact atI_nat (j := 0) rfl
    · rw [Bool.eq_iff_iff]
      cases t with
      | nil => simp
      | cons x r =>
        simp
        omega
    · refine s_ret ev_c fun H3 e3 => ?_
      have hb := of_decide_eq_true hb
      have hf : isNumeral t = false := by
        unfold Vbbrac.isNumeral
        cases t with
        | nil => rfl
        | cons x r =>
          rcases hb with hb | ⟨h1, h2⟩
          · cases hb
          · have hx : x = 48 := by simpa using h2
            have hr : ¬ r.length = 0 := by simp at h1; omega
            have hr' : r ≠ [] := fun z => hr (by rw [z]; rfl)
            simp [hx, hr']
      unfold oNum at k
      rw [hf] at k
      exact k H3 ((e.trans e2).trans e3)
    · refine s_ret (ev_var rfl) fun H3 e3 => ?_
      have hb := of_decide_eq_false hb
      have hf : isNumeral t = true := by
        unfold Vbbrac.isNumeral
        have h1 : (t.all fun b => decide (48 ≤ b) && decide (b ≤ 57)) = true := by
          rw [List.all_eq_true]
          intro b hb2
          have := hd b hb2
          simp
          omega
        rw [h1]
        cases t with
        | nil => simp at hb
        | cons x r =>
          have hb' : ¬ (1 < (x :: r).length ∧ (x :: r).head? = some 48) := fun z => hb (.inr z)
          simp at hb' ⊢
          cases r with
          | nil => simp
          | cons y r => right; exact hb' (by simp)
      unfold oNum at k
      rw [hf] at k
      exact k H3 ((e.trans e2).trans e3)
theorem pure_are_bytes (vs : List V) (H : Hp) (Q : VK) (E : XK) (h : sp_are_bytes c vs H Q E) : t_are_bytes c { nx := fun _ H' => Q .non H', rt := Q } (start ["numbers", "number"] vs) H := by
  obtain ⟨z, ⟨a, t, rfl, hs, hl, rfl⟩, k⟩ := h
  have q := el_lcL (K := c.K) (σ := start ["numbers", "number"] [.ref a]) (H := H) (tl := tVar 0) (te := tChain rLeI rLeI (tC (.int 0)) (tVar 1) (tC (.int 255))) (t := tYes) (j := 1) (vs := [1]) (fun _ => true) (fun i => .bl (Vbbrac.inside 0 255 (t.getD i 0))) (ev_var rfl) hs (by rw [List.length_map]; omega) (fun _ => rfl) (fun i x H1 _ _ H2 _ Q2 q2 => q2 H2 (Ex.refl H2)) fun i x H1 e1 hx _ => by
    rw [List.getElem?_map] at hx
    cases ht : t[i]? with
    | none => rw [ht] at hx; cases hx
    | some n =>
      rw [ht] at hx
      obtain rfl := Option.some.inj hx
      have e : t.getD i 0 = n := by rw [List.getD_eq_getElem?_getD, ht]; rfl
      rw [e]
      exact ev_chain ev_c (ev_var rfl) rv_I0 ev_c rv_I0
  rw [given_all] at q
  have e : (List.range (t.map V.int).length).map (fun i => V.bl (Vbbrac.inside 0 255 (t.getD i 0))) = (t.map (Vbbrac.inside 0 255)).map V.bl := by
    refine List.ext_getElem? fun i => ?_
    rw [List.getElem?_map, List.getElem?_map, List.getElem?_map, List.length_map]
    by_cases hi : i < t.length
    · rw [List.getElem?_range hi, List.getElem?_eq_getElem hi]
      show some (V.bl (Vbbrac.inside 0 255 (t.getD i 0))) = _
      rw [List.getD_eq_getElem?_getD, List.getElem?_eq_getElem hi]
      rfl
    · rw [List.getElem?_eq_none (by simpa using hi), List.getElem?_eq_none (by simpa using hi)]
      rfl
  rw [e] at q
  have e3 : (t.map (Vbbrac.inside 0 255)).all id = Vbbrac.isBytes t := by
    unfold Vbbrac.isBytes
    rw [List.all_map]
    rfl
  have q2 := ev_all (K := c.K) q
  rw [e3] at q2
  exact StX.go (H := H) (x_ret q2 k)
end G
namespace G
open Vbbrac

def bdW (d h : Nat) : Nat := if d < 2 then waysB (d + 1) 0 true h else 0
theorem waysB_loop (d p : Nat) (o : Bool) (h : Nat) (hd : d ≤ 2) : waysB d p o h = waysLoop h (bdW d h) (3 - p) o 1 := by
  have e : d = 0 ∨ d = 1 ∨ d = 2 := by omega
  rcases e with rfl | rfl | rfl <;> rfl
/-- the loop from its end: one turn more -/
theorem waysLoop_snoc (h bd : Nat) : ∀ (k : Nat) (mb : Bool) (w : Nat), waysLoop h bd (k + 1) mb w = (if (if k % 2 = 0 then mb else !mb) = true then waysLoop h bd k mb w + h + bd else waysLoop h bd k mb w + h)
  | 0, mb, w => rfl
  | k + 1, mb, w => by
    have ih := waysLoop_snoc h bd k (!mb) (if mb = true then w + h + bd else w + h)
    show waysLoop h bd (k + 1) (!mb) (if mb = true then w + h + bd else w + h) = _
    rw [ih]
    have e : (if k % 2 = 0 then !mb else !!mb) = (if (k + 1) % 2 = 0 then mb else !mb) := by
      by_cases q : k % 2 = 0
      · rw [if_pos q, if_neg (by omega)]
      · rw [if_neg q, if_pos (by omega), Bool.not_not]
    rw [e]
    rfl

/-! ### the longest -/
def longLoop (b bd : Nat) : Nat → Nat → Bool → Nat → Nat
  | 0, _, _, m => m
  | k + 1, bf, mb, m => longLoop b bd k (bf + 1) (!mb) (if mb = true ∧ 0 < bd then max (if 0 < b then max m (bf + b) else m) (bf + bd) else (if 0 < b then max m (bf + b) else m))
def stepL (b bd bf : Nat) (mb : Bool) (m : Nat) : Nat := if mb = true ∧ 0 < bd then max (if 0 < b then max m (bf + b) else m) (bf + bd) else (if 0 < b then max m (bf + b) else m)
theorem longLoop_snoc (b bd : Nat) : ∀ (k bf : Nat) (mb : Bool) (m : Nat), longLoop b bd (k + 1) bf mb m = stepL b bd (bf + k) (if k % 2 = 0 then mb else !mb) (longLoop b bd k bf mb m)
  | 0, bf, mb, m => rfl
  | k + 1, bf, mb, m => by
    have ih := longLoop_snoc b bd k (bf + 1) (!mb) (stepL b bd bf mb m)
    show longLoop b bd (k + 1) (bf + 1) (!mb) (stepL b bd bf mb m) = _
    rw [ih]
    have e : (if k % 2 = 0 then !mb else !!mb) = (if (k + 1) % 2 = 0 then mb else !mb) := by
      by_cases q : k % 2 = 0
      · rw [if_pos q, if_neg (by omega)]
      · rw [if_neg q, if_pos (by omega), Bool.not_not]
    rw [e, show bf + 1 + k = bf + (k + 1) by omega]
    rfl
def longB2 (p : Nat) (o : Bool) (b : Nat) : Nat := longLoop b 0 (3 - p) 0 o (3 - p)
def longB1 (p : Nat) (o : Bool) (b : Nat) : Nat := longLoop b (1 + longB2 0 true b) (3 - p) 0 o (3 - p)
def longB0 (p : Nat) (o : Bool) (b : Nat) : Nat := longLoop b (1 + longB1 0 true b) (3 - p) 0 o (3 - p)
def longB (d p : Nat) (o : Bool) (b : Nat) : Nat := if d = 0 then longB0 p o b else if d = 1 then longB1 p o b else longB2 p o b
def bdL (d b : Nat) : Nat := if d < 2 then 1 + longB (d + 1) 0 true b else 0
theorem longB_loop (d p : Nat) (o : Bool) (b : Nat) (hd : d ≤ 2) : longB d p o b = longLoop b (bdL d b) (3 - p) 0 o (3 - p) := by
  have e : d = 0 ∨ d = 1 ∨ d = 2 := by omega
  rcases e with rfl | rfl | rfl <;> rfl
def longFrom : Nat → Nat
  | 0 => 0
  | n + 1 => max (longFrom n) (1 + longB 0 0 true (longFrom n))
def longP (q : Pz) : Nat :=
  if atEnd q = true then 0
  else if q.bid = -1 then 3 - q.p + longFrom (34 - q.bid).toNat
  else longB q.d q.p q.o (longFrom (34 - q.bid).toNat)

/-! ### numbers -/
/-- the ways behind the calls of a list that are smaller -/
def sumBelow (q : Pz) (c : Nat) (l : List Nat) : Nat := ((l.filter fun x => decide (x < c)).map fun x => waysP (behindP q x)).foldl (fun a b => a + b) 0
def numGo (dl : Nat) : Nat → Pz → Nat → List (Nat × Nat) → Option Nat
  | _, _, n, [] => some n
  | i, q, n, (s, c) :: r => if s = (dl + i) % 4 ∧ atEnd q = false ∧ c ∈ legalP q then numGo dl (i + 1) (behindP q c) (n + sumBelow q c (legalP q)) r else none
theorem numGo_cons (dl i : Nat) (q : Pz) (n s c : Nat) (r : List (Nat × Nat)) : numGo dl i q n ((s, c) :: r) = if s = (dl + i) % 4 ∧ atEnd q = false ∧ c ∈ legalP q then numGo dl (i + 1) (behindP q c) (n + sumBelow q c (legalP q)) r else none := rfl
/-- the first of a list of calls behind whose ways n falls: the call, the ways before it -/
def findCall (q : Pz) (n : Nat) : Nat → List Nat → Option (Nat × Nat)
  | _, [] => none
  | b, c :: r => if n < b + waysP (behindP q c) then some (c, b) else findCall q n (b + waysP (behindP q c)) r
def walkP : Nat → Pz → Nat → List Nat
  | 0, _, _ => []
  | k + 1, q, n => if atEnd q = true then [] else match findCall q n 0 (legalP q) with
    | none => []
    | some x => x.1 :: walkP k (behindP q x.1) (n - x.2)
theorem foldl_add (l : List Nat) : ∀ a, l.foldl (fun a b => a + b) a = a + l.foldl (fun a b => a + b) 0 := by
  induction l with
  | nil => intro a; rfl
  | cons x r ih =>
    intro a
    show r.foldl (fun a b => a + b) (a + x) = a + r.foldl (fun a b => a + b) (0 + x)
    rw [ih (a + x), ih (0 + x)]
    omega
theorem sumBelow_snoc (q : Pz) (c x : Nat) (l : List Nat) : sumBelow q c (l ++ [x]) = sumBelow q c l + (if x < c then waysP (behindP q x) else 0) := by
  unfold sumBelow
  rw [List.filter_append, List.map_append, List.foldl_append]
  by_cases h : x < c
  · rw [if_pos h]
    simp [h]
  · rw [if_neg h]
    simp [h]
theorem legalP_le {q : Pz} {x : Nat} (h : x ∈ legalP q) (h0 : -1 ≤ q.bid) (h1 : q.bid ≤ 34) : x ≤ 37 := by
  unfold legalP at h
  rcases List.mem_append.mp h with h | h
  · rcases List.mem_cons.mp h with h | h
    · omega
    · split at h
      · split at h
        · have := List.mem_singleton.mp h; omega
        · split at h
          · have := List.mem_singleton.mp h; omega
          · cases h
      · cases h
  · unfold higherCalls at h
    obtain ⟨i, hi, e⟩ := List.mem_map.mp h
    have := List.mem_range.mp hi
    omega
theorem legalP_len (q : Pz) (h0 : -1 ≤ q.bid) (h1 : q.bid ≤ 34) : (legalP q).length ≤ 100 := by
  unfold legalP higherCalls
  rw [List.length_append, List.length_map, List.length_range, List.length_cons]
  split
  · split
    · simp; omega
    · split
      · simp; omega
      · simp; omega
  · simp; omega
theorem behindP_dbl {q : Pz} {x : Nat} (h0 : x ≠ 0) (h3 : x < 3) : behindP q x = ⟨q.bid, x, 0, true⟩ := by
  unfold behindP
  rw [if_neg h0, if_pos h3]
theorem behindP_bid {q : Pz} {x : Nat} (h3 : 3 ≤ x) : behindP q x = ⟨(x : Int) - 3, 0, 0, true⟩ := by
  unfold behindP
  rw [if_neg (by omega), if_neg (by omega)]
/-- how many calls there may still be, at most -/
def mu (q : Pz) : Nat := if q.bid = -1 then 4 - q.p + 315 else 9 * (34 - q.bid).toNat + 3 * (2 - q.d) + (3 - q.p)
theorem mu_less {q : Pz} {x : Nat} (h : x ∈ legalP q) (h0 : -1 ≤ q.bid) (h1 : q.bid ≤ 34) (he : atEnd q = false) : mu (behindP q x) < mu q := by
  have hp : ¬ ((if q.bid = -1 then 4 else 3 : Int) ≤ (q.p : Nat)) := of_decide_eq_false he
  unfold legalP at h
  rcases List.mem_append.mp h with h | h
  · rcases List.mem_cons.mp h with h | h
    · subst h
      unfold behindP mu
      rw [if_pos rfl]
      by_cases hb : q.bid = -1
      · rw [if_pos hb] at hp
        rw [if_pos hb, if_pos hb]
        show 4 - (q.p + 1) + 315 < _
        omega
      · rw [if_neg hb] at hp
        rw [if_neg hb, if_neg hb]
        show 9 * (34 - q.bid).toNat + 3 * (2 - q.d) + (3 - (q.p + 1)) < _
        omega
    · split at h
      · rename_i hq
        rw [if_neg hq.1] at hp
        have hd : (q.d = 0 ∧ x = 1) ∨ (q.d = 1 ∧ x = 2) := by
          split at h
          · exact .inl ⟨by assumption, List.mem_singleton.mp h⟩
          · split at h
            · exact .inr ⟨by assumption, List.mem_singleton.mp h⟩
            · cases h
        rw [behindP_dbl (by omega) (by omega)]
        unfold mu
        show (if q.bid = -1 then _ else 9 * (34 - q.bid).toNat + 3 * (2 - x) + (3 - 0)) < (if q.bid = -1 then _ else _)
        rw [if_neg hq.1, if_neg hq.1]
        omega
      · cases h
  · unfold higherCalls at h
    obtain ⟨i, hi, e⟩ := List.mem_map.mp h
    have := List.mem_range.mp hi
    have hx : 3 ≤ x := by omega
    rw [behindP_bid hx]
    unfold mu
    show (if (x : Int) - 3 = -1 then _ else 9 * (34 - ((x : Int) - 3)).toNat + 3 * (2 - 0) + (3 - 0)) < _
    rw [if_neg (by omega)]
    by_cases hb : q.bid = -1
    · rw [if_pos hb]
      omega
    · rw [if_neg hb] at hp ⊢
      omega
end G
namespace G
open PySem PySem.Spec PyProof.Rows L2 Evl

def posFs (q : Pz) : List (Str × V) := [("bid", .int q.bid), ("doubled_number", .int (q.d : Nat)), ("passes", .int (q.p : Nat)), ("by_other", .bl q.o)]
def PosAt (c : Cn) (H : Hp) (a : Addr) (q : Pz) : Prop := ∃ dx, H a = some (.ins c.CP dx (posFs q))
theorem PosAt.mono {c : Cn} {H H' : Hp} {a : Addr} {q : Pz} (h : PosAt c H a q) (e : Ex H H') : PosAt c H' a q := let ⟨dx, h⟩ := h; ⟨dx, e _ _ h⟩
def RetQ (c : Cn) (q : Pz) (H : Hp) (Q : VK) : Prop := ∀ p H2, H p = none → Ex H H2 → PosAt c H2 p q → Q (.ref p) H2
def EvQ (c : Cn) (te : TE) (σ : L2.St) (H : Hp) (q : Pz) : Prop := ∀ H1, Ex H H1 → ∀ Q : VK, RetQ c q H1 Q → te σ H1 Q
def sp_Position_init (c : Cn) : Sp := fun vs H Q _ => ∃ (p dx : Addr) (q : Pz), vs = [.ref p, .int q.bid, .int (q.d : Nat), .int (q.p : Nat), .bl q.o] ∧ H p = some (.ins c.CP dx []) ∧ ∀ H', PosAt c H' p q → Keep [p] H H' → Q .non H'
section
variable {c : Cn} {σ : L2.St} {H H' : Hp} {te ta : TE} {tA : TA} {q : Pz} {a : Addr} {D : Ends} {tz : TS}
theorem EvQ.mono (e : Ex H H') (h : EvQ c te σ H q) : EvQ c te σ H' q := fun H1 e1 => h H1 (e.trans e1)
theorem eq_make (h : EvA tA σ H [.int q.bid, .int (q.d : Nat), .int (q.p : Nat), .bl q.o]) : EvQ c (tMake c.CP (sp_Position_init c) [] E0 tA) σ H q := fun H1 e Q k =>
  h H1 e _ fun H2 e2 => fun x dx hx hdx ne => by
    rw [List.append_nil]
    refine ⟨x, dx, q, rfl, upd_same, fun H3 P kp => ⟨rfl, k x H3 (fresh_back e2 hx) (e2.trans fun b o hb => kp b o ?_ ?_) P⟩⟩
    · rw [upd_ne (ne_of_none hb hx), upd_ne (ne_of_none hb hdx)]
      exact hb
    · simp only [List.mem_singleton]
      exact ne_of_none hb hx
theorem eq_call {sp : Sp} {vs : List V} (h : EvA tA σ H vs) (hs : ∀ H1, Ex H H1 → ∀ Q E, RetQ c q H1 Q → sp (vs ++ []) H1 Q E) : EvQ c (tCall sp [] E0 tA) σ H q := fun H1 e Q k =>
  h H1 e _ fun H2 e2 => hs H2 (e.trans e2) _ _ fun p H3 hp e3 P => k p H3 (fresh_back e2 hp) (e2.trans e3) P
theorem x_retQ (h : EvQ c te σ H q) (k : RetQ c q H D.rt) : StX (tRet te) D σ H := fun H1 e => h H1 e _ fun p H2 hp e2 P => k p H2 (fresh_back e hp) (e.trans e2) P
theorem q_setQ {i : Nat} (h : EvQ c te σ H q) (k : ∀ p H1, H p = none → Ex H H1 → PosAt c H1 p q → tz D (σ.set i (some (.ref p))) H1) : tSeq (tAsg te (gName i)) tz D σ H := h H (Ex.refl H) _ fun p H2 hp e2 P => k p H2 hp e2 P
theorem s_setQ {i : Nat} (h : EvQ c te σ H q) (k : ∀ p H1, H p = none → Ex H H1 → PosAt c H1 p q → D.nx (σ.set i (some (.ref p))) H1) : tAsg te (gName i) D σ H := h H (Ex.refl H) _ fun p H2 hp e2 P => k p H2 hp e2 P
theorem lkp_bid : (posFs q).lookup ("bid" : Str) = some (.int q.bid) := by rfl
theorem lkp_d : (posFs q).lookup ("doubled_number" : Str) = some (.int (q.d : Nat)) := by rfl
theorem lkp_p : (posFs q).lookup ("passes" : Str) = some (.int (q.p : Nat)) := by rfl
theorem lkp_o : (posFs q).lookup ("by_other" : Str) = some (.bl q.o) := by rfl
variable (Z : Zs c) (P : PosAt c H a q)
include Z P
theorem pv_bid (h : Ev ta σ H (.ref a)) : Ev (tFld c.K ta "bid") σ H (.int q.bid) := let ⟨_, h1⟩ := P; ev_fld h h1 Z.zP.cl (Z.zP.no _ (by simp)) lkp_bid
theorem pv_d (h : Ev ta σ H (.ref a)) : Ev (tFld c.K ta "doubled_number") σ H (.int (q.d : Nat)) := let ⟨_, h1⟩ := P; ev_fld h h1 Z.zP.cl (Z.zP.no _ (by simp)) lkp_d
theorem pv_p (h : Ev ta σ H (.ref a)) : Ev (tFld c.K ta "passes") σ H (.int (q.p : Nat)) := let ⟨_, h1⟩ := P; ev_fld h h1 Z.zP.cl (Z.zP.no _ (by simp)) lkp_p
theorem pv_o (h : Ev ta σ H (.ref a)) : Ev (tFld c.K ta "by_other") σ H (.bl q.o) := let ⟨_, h1⟩ := P; ev_fld h h1 Z.zP.cl (Z.zP.no _ (by simp)) lkp_o
end
section
variable {K : PySem.W.Frag} {σ : L2.St} {H : Hp} {te tl ta tb : TE} {D : Ends} {tz : TS}
/-- a comprehension over a range of two ends -/
theorem el_lcR2 {tA : TA} {j : Nat} {vs : List Nat} {lo n : Int} (v : Nat → V) (h : EvA tA σ H [.int lo, .int n]) (hn : 0 ≤ lo ∧ lo ≤ 40000 ∧ -40000 ≤ n ∧ n ≤ 40000) (hw : ∀ x, wipe ((wipe σ vs).set j (some x)) vs = wipe σ vs)
    (he : ∀ (i : Nat) H1, Ex H H1 → lo + (i : Int) < n → Ev te ((wipe σ vs).set j (some (.int (lo + (i : Int))))) H1 (v i)) :
    EvL (tLc (iRng2 tA) (gName j) tYes te vs) σ H (given (n - lo).toNat (fun _ => true) v) := fun H0 e Q q => h H0 e _ fun H1 e1 => ⟨lo, n, rfl, ⟨by omega, by omega, by omega, by omega⟩, fun Dl hD =>
  lc_range (lo := lo) (n := (n - lo).toNat) (Cw H1 (fun _ => true) v Dl) ⟨hD, Ex.new hD, upd_same⟩ (fun i H' hi p => ⟨hw _, cw_turn (t := tYes) p (by omega) (fun H3 e3 Q3 q3 => q3 H3 (Ex.refl H3)) fun _ => he i H1 (e.trans e1) (by omega)⟩)
    (fun H' p => q Dl H' (fresh_back e1 p.1) (e1.trans p.2.1) p.2.2)⟩
/-- xs.insert(0, e) -/
theorem s_ins0 {l : Addr} {xs : List V} {v : V} (hl : H l = some (.lst xs)) (ha : Ev ta σ H (.ref l)) (h : Ev te σ H v) (hz : xs.length < 100000) (k : ∀ H1, Ex H H1 → D.nx σ (upd H1 l (.lst (v :: xs)))) :
    tDrop (tBM K "list" rInsert ta (tCons (tC (.int 0)) (tCons te tNil))) D σ H := ha H (Ex.refl H) _ fun H1 e1 =>
  ⟨Or.inl ⟨rfl, xs, sq_of (e1 l _ hl)⟩, h H1 e1 _ fun H2 e2 => ⟨l, xs, 0, v, rfl, rfl, e2 l _ (e1 l _ hl), sz_lt hz, by decide, by decide, k H2 (e1.trans e2)⟩⟩
/-- xs.extend(a new list) -/
theorem s_extL {l : Addr} {xs ys : List V} (hl : H l = some (.lst xs)) (ha : Ev ta σ H (.ref l)) (h : EvL te σ H ys) (hz : xs.length + ys.length ≤ 100000) (k : ∀ H1, Ex H H1 → D.nx σ (upd H1 l (.lst (xs ++ ys)))) :
    tDrop (tBM K "list" rExtend ta (tCons te tNil)) D σ H := ha H (Ex.refl H) _ fun H1 e1 =>
  ⟨Or.inl ⟨rfl, xs, sq_of (e1 l _ hl)⟩, h H1 e1 _ fun p H2 _ e2 h2 => ⟨l, p, xs, ys, rfl, rfl, e2 l _ (e1 l _ hl), h2, sz_of hz, k H2 (e1.trans e2)⟩⟩
theorem q_extL {l : Addr} {xs ys : List V} (hl : H l = some (.lst xs)) (ha : Ev ta σ H (.ref l)) (h : EvL te σ H ys) (hz : xs.length + ys.length ≤ 100000) (k : ∀ H1, Ex H H1 → tz D σ (upd H1 l (.lst (xs ++ ys)))) :
    tSeq (tDrop (tBM K "list" rExtend ta (tCons te tNil))) tz D σ H := s_extL (D := { D with nx := tz D }) hl ha h hz k
theorem max_cast (i j : Nat) : (if ((j : Nat) : Int) > ((i : Nat) : Int) then ((j : Nat) : Int) else ((i : Nat) : Int)) = ((max i j : Nat) : Int) := by
  by_cases h : j > i
  · rw [if_pos (by omega)]
    congr 1
    omega
  · rw [if_neg (by omega)]
    congr 1
    omega
theorem ev_maxN {i j : Nat} (ha : Ev ta σ H (.int (i : Nat))) (hb : Ev tb σ H (.int (j : Nat))) : Ev (tCB rMax2 (tCons ta (tCons tb tNil))) σ H (.int (max i j : Nat)) := ev_is (ev_max2 ha hb) (by rw [max_cast])
end
/-- a position that the program can come to -/
structure Vp (q : Pz) : Prop where
  b0 : -1 ≤ q.bid
  b1 : q.bid ≤ 34
  d2 : q.d ≤ 2
def sp_first_position (c : Cn) : Sp := fun vs H Q _ => vs = [] ∧ RetQ c first H Q
def sp_position_of (c : Cn) : Sp := fun vs H Q _ => ∃ (dl : Nat) (a : Addr) (m : Mds), vs = [.int (dl : Nat), .ref a] ∧ MadeAt H a m ∧ RetQ c (posOf dl m) H Q
def sp_is_at_end (c : Cn) : Sp := RetSp fun vs H z => ∃ (a : Addr) (q : Pz), vs = [.ref a] ∧ PosAt c H a q ∧ z = .bl (atEnd q)
def sp_legal_calls (c : Cn) : Sp := fun vs H Q _ => ∃ (a : Addr) (q : Pz), vs = [.ref a] ∧ PosAt c H a q ∧ Vp q ∧ RetL (nV (legalP q)) H Q
def sp_position_behind (c : Cn) : Sp := fun vs H Q _ => ∃ (a : Addr) (q : Pz) (cc : Nat), vs = [.ref a, .int (cc : Nat)] ∧ PosAt c H a q ∧ RetQ c (behindP q cc) H Q
/-- for d from n to 2 -/
def sp_ways_with_bid (n : Nat) : Sp := RetSp fun vs H z => ∃ (d p h : Nat) (o : Bool), vs = [.int (d : Nat), .int (p : Nat), .bl o, .int (h : Nat)] ∧ n ≤ d ∧ d ≤ 2 ∧ p ≤ 10 ∧ z = .int (waysB d p o h : Nat)
def sp_ways_from_bids : Sp := fun vs H Q _ => vs = [] ∧ RetL (nV sums) H Q
def sp_ways_of (c : Cn) : Sp := RetSp fun vs H z => ∃ (a b : Addr) (q : Pz), vs = [.ref a, .ref b] ∧ PosAt c H a q ∧ SqL c.K H b (nV sums) ∧ Vp q ∧ z = .int (waysP q : Nat)
def sp_longest_with_bid (n : Nat) : Sp := RetSp fun vs H z => ∃ (d p b : Nat) (o : Bool), vs = [.int (d : Nat), .int (p : Nat), .bl o, .int (b : Nat)] ∧ n ≤ d ∧ d ≤ 2 ∧ p ≤ 10 ∧ z = .int (longB d p o b : Nat)
def sp_longest_from_bid : Sp := RetSp fun vs H z => ∃ n : Nat, vs = [.int (35 - (n : Nat) : Int)] ∧ n ≤ 35 ∧ z = .int (longFrom n : Nat)
def sp_longest_of (c : Cn) : Sp := RetSp fun vs H z => ∃ (a : Addr) (q : Pz), vs = [.ref a] ∧ PosAt c H a q ∧ Vp q ∧ z = .int (longP q : Nat)
def sp_number_of (c : Cn) : Sp := RetSp fun vs H z => ∃ (dl : Nat) (a : Addr) (m : Mds), vs = [.int (dl : Nat), .ref a] ∧ MadeAt H a m ∧ m.length ≤ 10000 ∧ z = oInt (numGo dl 0 first 0 m)
/-- n falls behind one of the calls -/
def sp_call_with (c : Cn) : Sp := fun vs H Q _ => ∃ (a b : Addr) (q : Pz) (n : Nat) (x : Nat × Nat), vs = [.ref a, .ref b, .int (n : Nat)] ∧ PosAt c H a q ∧ SqL c.K H b (nV sums) ∧ Vp q ∧ findCall q n 0 (legalP q) = some x ∧
  ∀ p H2, Ex H H2 → H2 p = some (pairHO x) → Q (.ref p) H2
section
variable {c : Cn} {H : Hp} {a b : Addr} {q : Pz}
theorem sv_is_at_end (P : PosAt c H a q) : SpV (sp_is_at_end c) ([.ref a] ++ []) H (.bl (atEnd q)) := RetSp.sv fun _ e => ⟨a, q, rfl, P.mono e, rfl⟩
theorem sl_legal_calls (P : PosAt c H a q) (v : Vp q) : SpL (sp_legal_calls c) ([.ref a] ++ []) H (nV (legalP q)) := fun H1 e Q k E => ⟨a, q, rfl, P.mono e, v, fun p H2 hp e2 h2 => k p H2 hp e2 h2⟩
theorem sq_position_behind {σ : L2.St} {ta : TA} {cc : Nat} (h : EvA ta σ H [.ref a, .int (cc : Nat)]) (P : PosAt c H a q) : EvQ c (tCall (sp_position_behind c) [] E0 ta) σ H (behindP q cc) := eq_call h fun H1 e Q E k => ⟨a, q, cc, rfl, P.mono e, k⟩
theorem sq_position_of {σ : L2.St} {ta : TA} {dl : Nat} {m : Mds} (h : EvA ta σ H [.int (dl : Nat), .ref a]) (M : MadeAt H a m) : EvQ c (tCall (sp_position_of c) [] E0 ta) σ H (posOf dl m) := eq_call h fun H1 e Q E k => ⟨dl, a, m, rfl, M.mono e, k⟩
theorem sq_first_position {σ : L2.St} : EvQ c (tCall (sp_first_position c) [] E0 tNil) σ H first := eq_call ea_nil fun H1 e Q E k => ⟨rfl, k⟩
theorem sl_ways_from_bids : SpL sp_ways_from_bids ([] ++ []) H (nV sums) := fun H1 e Q k E => ⟨rfl, fun p H2 hp e2 h2 => k p H2 hp e2 h2⟩
theorem sv_ways_with_bid {n d p h : Nat} {o : Bool} (hn : n ≤ d) (hd : d ≤ 2) (hp : p ≤ 10) : SpV (sp_ways_with_bid n) ([.int (d : Nat), .int (p : Nat), .bl o, .int (h : Nat)] ++ []) H (.int (waysB d p o h : Nat)) := RetSp.sv fun _ _ => ⟨d, p, h, o, rfl, hn, hd, hp, rfl⟩
theorem sv_longest_with_bid {n d p h : Nat} {o : Bool} (hn : n ≤ d) (hd : d ≤ 2) (hp : p ≤ 10) : SpV (sp_longest_with_bid n) ([.int (d : Nat), .int (p : Nat), .bl o, .int (h : Nat)] ++ []) H (.int (longB d p o h : Nat)) := RetSp.sv fun _ _ => ⟨d, p, h, o, rfl, hn, hd, hp, rfl⟩
theorem sv_ways_of (P : PosAt c H a q) (hs : SqL c.K H b (nV sums)) (v : Vp q) : SpV (sp_ways_of c) ([.ref a, .ref b] ++ []) H (.int (waysP q : Nat)) := RetSp.sv fun _ e => ⟨a, b, q, rfl, P.mono e, ex_l e hs, v, rfl⟩
theorem sv_longest_of (P : PosAt c H a q) (v : Vp q) : SpV (sp_longest_of c) ([.ref a] ++ []) H (.int (longP q : Nat)) := RetSp.sv fun _ e => ⟨a, q, rfl, P.mono e, v, rfl⟩
theorem sv_number_of {dl : Nat} {m : Mds} (M : MadeAt H a m) (hl : m.length ≤ 10000) : SpV (sp_number_of c) ([.int (dl : Nat), .ref a] ++ []) H (oInt (numGo dl 0 first 0 m)) := RetSp.sv fun _ e => ⟨dl, a, m, rfl, M.mono e, hl, rfl⟩
end
theorem Vp.behind {q : Pz} {x : Nat} (v : Vp q) (h : x ≤ 37) : Vp (behindP q x) := by
  unfold behindP
  split
  · exact ⟨v.b0, v.b1, v.d2⟩
  · split
    · refine ⟨v.b0, v.b1, ?_⟩
      show x ≤ 2
      omega
    · refine ⟨?_, ?_, by show 0 ≤ 2; omega⟩
      · show -1 ≤ (x : Int) - 3
        omega
      · show (x : Int) - 3 ≤ 34
        omega
theorem inV_nV (x : Nat) (l : List Nat) : inV (.int (x : Nat)) (nV l) = decide (x ∈ l) := by
  unfold inV nV
  rw [List.any_map, Bool.eq_iff_iff]
  simp only [List.any_eq_true, decide_eq_true_eq]
  constructor
  · rintro ⟨y, hy, e⟩
    have e' : ((y : Nat) : Int) = (x : Nat) := by simpa [eqV] using e
    have : y = x := by omega
    rw [← this]
    exact hy
  · intro h
    exact ⟨x, h, by simp [eqV]⟩
theorem flat_nV (l : List Nat) : (nV l).all flatV = true := by
  unfold nV
  rw [List.all_map, List.all_eq_true]
  intro x _
  rfl
/-- ways_of of a new position -/
theorem ev_waysQ {c : Cn} {σ : L2.St} {H : Hp} {te tb : TE} {q : Pz} {b : Addr} (h : EvQ c te σ H q) (hb : Ev tb σ H (.ref b)) (hs : SqL c.K H b (nV sums)) (v : Vp q) : Ev (tCall (sp_ways_of c) [] E0 (tCons te (tCons tb tNil))) σ H (.int (waysP q : Nat)) := fun H1 e Q k =>
  h H1 e _ fun p H2 hp e2 P => hb H2 (e.trans e2) _ fun H3 e3 => ⟨_, ⟨p, b, q, rfl, P.mono e3, ex_l ((e.trans e2).trans e3) hs, v, rfl⟩, fun H4 e4 => k H4 ((e2.trans e3).trans e4)⟩
theorem Vp.first : Vp first := ⟨by decide, by decide, by decide⟩
end G
namespace G
open PySem PySem.Spec PyProof.Rows L2 Evl
local macro_rules | `(tactic| walk_at "ea") => `(tactic| first
  | with_reducible exact ea_nil
  | ((with_reducible refine' ea_cons ?eah ?eat); (case eah => walk_at "ev"); (case eat => walk_at "ea")))
local macro_rules | `(tactic| walk_at "rv") => `(tactic| first
  | with_reducible exact rv_I0
  | with_reducible exact rv_isN0
  | with_reducible exact rv_isNr
  | with_reducible exact rv_isNi
  | with_reducible exact rv_notN0
  | with_reducible exact rv_notNr
  | with_reducible exact rv_notNi
  | with_reducible exact rv_isN
  | with_reducible exact rv_notN
  | ((with_reducible refine' rv_eq ?rve); (case rve => rfl))
  | ((with_reducible refine' rv_ne ?rve); (case rve => rfl))
  | ((with_reducible refine' rv_I ?rve); (case rve => first | (exact (by decide)) | ((try dsimp only); first | decide | omega))))
local macro_rules | `(tactic| walk_at "ev") => `(tactic| first
  | with_reducible assumption
  | ((with_reducible refine' ev_var ?e0); (case e0 => exact rfl))
  | with_reducible exact ev_c
  | ((with_reducible refine' ev_op ?e1 ?e2 ?e3); (case e1 => walk_at "ev"); (case e2 => walk_at "ev"); (case e3 => walk_at "rv"))
  | ((with_reducible refine' ev_un ?e1 ru_neg); (case e1 => walk_at "ev"))
  | ((with_reducible refine' ev_call ?ca ?cb); (case ca => walk_at "ea"); (case cb => walk_at "gsp"))
  | ((with_reducible refine' ev_chain ?e1 ?e2 ?e3 ?e4 ?e5); (case e1 => walk_at "ev"); (case e2 => walk_at "ev"); (case e3 => walk_at "rv"); (case e4 => walk_at "ev"); (case e5 => walk_at "rv"))
  | ((with_reducible refine' ev_notV ?e1); (case e1 => walk_at "ev"))
  | fail "ev")
local macro_rules | `(tactic| walk_at "et") => `(tactic| first
  | with_reducible assumption
  | ((with_reducible refine' et_test ?e1); (case e1 => walk_at "ev"))
  | ((with_reducible refine' et_B ?e1); (case e1 => walk_at "ev"))
  | ((with_reducible refine' et_and ?e1 (fun hqq => ?e2)); (case e1 => walk_at "et"); (case e2 => walk_at "et"))
  | ((with_reducible refine' et_or ?e1 (fun hqq => ?e2)); (case e1 => walk_at "et"); (case e2 => walk_at "et"))
  | ((with_reducible refine' et_not ?e1); (case e1 => walk_at "et"))
  | fail "et")
local macro_rules | `(tactic| walk_at "nx") => `(tactic| ((try dsimp only); refine nx_of ?_))
local macro_rules | `(tactic| walk_at "xset") => `(tactic| (refine' x_set ?xe ?xk; (case xe => walk_at "ev")))
local macro_rules | `(tactic| walk_at "xasg") => `(tactic| (refine' x_asg ?xe ?xk; (case xe => walk_at "ev")))
local macro_rules | `(tactic| walk_at "xret") => `(tactic| (refine' x_ret ?xe ?xk; (case xe => walk_at "ev")))
local macro_rules | `(tactic| walk_at "xwhen") => `(tactic| (refine' x_when ?xe ?xk ?xl; (case xe => walk_at "et")))
local macro_rules | `(tactic| walk_at "xif") => `(tactic| (refine' x_if ?xe ?xk ?xl; (case xe => walk_at "et")))
local macro_rules | `(tactic| walk_at "xif2") => `(tactic| (refine' x_if2 ?xe ?xk ?xl; (case xe => walk_at "et")))
local macro_rules | `(tactic| walk_at "gsp") => `(tactic| first
  | exact sv_side_of
  | exact sv_passes_to_end
  | exact sv_last_bid (by assumption)
  | exact sv_passes_at_end (by assumption)
  | exact sv_seat_on_turn (by assumption)
  | exact sv_doubled (by assumption))
variable {c : Cn}
theorem pure_Position_init (Z : Zs c) (vs : List V) (H : Hp) (Q : VK) (E : XK) (h : sp_Position_init c vs H Q E) : t_Position_init c { nx := fun _ H' => Q .non H', rt := Q } (start ["self", "bid", "doubled_number", "passes", "by_other"] vs) H := by
  obtain ⟨p, dx, q, rfl, hp, k⟩ := h
  have mp : p ∈ [p] := List.mem_singleton.mpr rfl
  refine q_fld (ev_var rfl) (ev_var rfl) hp Z.zP.cl (Z.zP.no _ (by simp)) (by decide) fun H1 e1 => ?_
  refine q_fld (ev_var rfl) (ev_var rfl) upd_same Z.zP.cl (Z.zP.no _ (by simp)) (by show (1 : Nat) < 1000; decide) fun H2 e2 => ?_
  refine q_fld (ev_var rfl) (ev_var rfl) upd_same Z.zP.cl (Z.zP.no _ (by simp)) (by show (2 : Nat) < 1000; decide) fun H3 e3 => ?_
  refine s_fld (ev_var rfl) (ev_var rfl) upd_same Z.zP.cl (Z.zP.no _ (by simp)) (by show (3 : Nat) < 1000; decide) fun H4 e4 => ?_
  refine k _ ⟨dx, upd_same⟩ ?_
  exact ((((((Keep.of_ex e1).upd mp).trans (Keep.of_ex e2)).upd mp).trans (Keep.of_ex e3)).upd mp |>.trans (Keep.of_ex e4)).upd mp
theorem pure_first_position (vs : List V) (H : Hp) (Q : VK) (E : XK) (h : sp_first_position c vs H Q E) : t_first_position c (sp_Position_init c) { nx := fun _ H' => Q .non H', rt := Q } (start [] vs) H := by
  obtain ⟨rfl, k⟩ := h
  exact StX.go (H := H) (x_retQ (eq_make (q := first) (ea_cons ev_c (ea_cons ev_c (ea_cons ev_c (ea_cons ev_c ea_nil))))) k)
theorem pure_position_of (vs : List V) (H : Hp) (Q : VK) (E : XK) (h : sp_position_of c vs H Q E) : t_position_of c sp_doubled sp_last_bid sp_last_word sp_passes_at_end sp_seat_on_turn sp_side_of (sp_Position_init c) { nx := fun _ H' => Q .non H', rt := Q } (start ["dealer", "made", "word", "by_other"] vs) H := by
  obtain ⟨dl, a, m, rfl, hM0, k0⟩ := h
  refine StX.go (H := H) (x_setW hM0 (by walk_at "ea") fun v H1 e1 hw => ?_)
  have hM := hM0.mono e1
  have k : RetQ c (posOf dl m) H1 Q := fun p H2 hp e2 P => k0 p H2 (fresh_back e1 hp) (e1.trans e2) P
  have fin : ∀ σ, σ[0]? = some (some (V.int (dl : Nat))) → σ[1]? = some (some (V.ref a)) → σ[3]? = some (some (V.bl (byOther dl m))) → StX (tRet (tMake c.CP (sp_Position_init c) [] E0 (tCons (tCall sp_last_bid [] E0 (tCons (tVar 1) tNil)) (tCons (tCall sp_doubled [] E0 (tCons (tVar 1) tNil)) (tCons (tCall sp_passes_at_end [] E0 (tCons (tVar 1) tNil)) (tCons (tVar 3) tNil)))))) { nx := fun _ H' => Q .non H', rt := Q } σ H1 := fun σ h0 h1 h3 => by
    refine x_retQ (q := posOf dl m) (eq_make ?_) k
    exact ea_cons (ev_call (ea_cons (ev_var h1) ea_nil) (sv_last_bid hM)) (ea_cons (ev_call (ea_cons (ev_var h1) ea_nil) (sv_doubled hM)) (ea_cons (ev_call (ea_cons (ev_var h1) ea_nil) (sv_passes_at_end hM)) (ea_cons (ev_var h3) ea_nil)))
  cases w : Vbbrac.lastWord m with
  | none =>
    rw [w] at hw
    obtain rfl : v = .non := hw
    have eb : byOther dl m = false := by unfold byOther; rw [w]
    refine x_set (v := .bl false) (ev_andV0 (ev_op (ev_var rfl) ev_c rv_notN0)) ?_
    rw [← eb]
    exact fin _ rfl rfl rfl
  | some x =>
    rw [w] at hw
    obtain ⟨p, rfl, hp⟩ := hw
    refine x_set (v := .bl (byOther dl m)) (ev_is (ev_andV (a := true) (ev_op (ev_var rfl) ev_c rv_notNr) fun _ => ev_op (ev_call (ea_cons (ev_pair (ev_var rfl) hp (i := 0) (v := .int (x.1 : Nat)) ev_c rfl) ea_nil) sv_side_of) (ev_call (ea_cons (ev_call (ea_cons (ev_var rfl) (ea_cons (ev_var rfl) ea_nil)) (sv_seat_on_turn hM)) ea_nil) sv_side_of) (rv_ne rfl)) ?_) (fin _ rfl rfl rfl)
    unfold byOther
    rw [w]
    congr 1
    rw [Bool.eq_iff_iff]
    simp
    omega
theorem pure_is_at_end (Z : Zs c) (vs : List V) (H : Hp) (Q : VK) (E : XK) (h : sp_is_at_end c vs H Q E) : t_is_at_end c sp_passes_to_end { nx := fun _ H' => Q .non H', rt := Q } (start ["position"] vs) H := by
  obtain ⟨z, ⟨a, q, rfl, P, rfl⟩, k⟩ := h
  exact StX.go (H := H) (x_ret (ev_op (pv_p Z P (ev_var rfl)) (ev_call (ea_cons (pv_bid Z P (ev_var rfl)) ea_nil) sv_passes_to_end) rv_I0) k)
theorem pure_position_behind (Z : Zs c) (vs : List V) (H : Hp) (Q : VK) (E : XK) (h : sp_position_behind c vs H Q E) : t_position_behind c (sp_Position_init c) { nx := fun _ H' => Q .non H', rt := Q } (start ["position", "call", "by_other"] vs) H := by
  obtain ⟨a, q, cc, rfl, P, k⟩ := h
  unfold behindP at k
  refine StX.go (H := H) ?_
  refine' x_when ?xe ?xk ?xl
  case xe => walk_at "et"
  case xk =>
    intro hb
    have hc : cc = 0 := by simp at hb; omega
    rw [if_pos hc] at k
    refine x_set (v := .bl (decide (q.bid ≠ -1) && !q.o)) (ev_is (ev_andV (ev_op (pv_bid (q := q) Z P (ev_var rfl)) ev_c (rv_ne rfl)) fun _ => ev_notV (pv_o (q := q) Z P (ev_var rfl))) (by simp)) ?_
    exact x_retQ (q := ⟨q.bid, q.d, q.p + 1, decide (q.bid ≠ -1) && !q.o⟩) (eq_make (ea_cons (pv_bid (q := q) Z P (ev_var rfl)) (ea_cons (pv_d (q := q) Z P (ev_var rfl)) (ea_cons (ev_op (pv_p (q := q) Z P (ev_var rfl)) ev_c rv_I0) (ea_cons (ev_var rfl) ea_nil))))) k
  case xl =>
    intro hb
    have hc : ¬ cc = 0 := by simp at hb; omega
    rw [if_neg hc] at k
    refine' x_when ?xe ?xk ?xl
    case xe => walk_at "et"
    case xk =>
      intro hb
      have hc : cc < 3 := by simp at hb; omega
      rw [if_pos hc] at k
      exact x_retQ (q := ⟨q.bid, cc, 0, true⟩) (eq_make (ea_cons (pv_bid (q := q) Z P (ev_var rfl)) (ea_cons (ev_var rfl) (ea_cons ev_c (ea_cons ev_c ea_nil))))) k
    case xl =>
      intro hb
      have hc : ¬ cc < 3 := by simp at hb; omega
      rw [if_neg hc] at k
      exact x_retQ (q := ⟨(cc : Int) - 3, 0, 0, true⟩) (eq_make (ea_cons (ev_op (ev_var rfl) ev_c rv_I0) (ea_cons ev_c (ea_cons ev_c (ea_cons ev_c ea_nil))))) k
theorem pure_ways_with_bid (n : Nat) (vs : List V) (H : Hp) (Q : VK) (E : XK) (h : sp_ways_with_bid n vs H Q E) : t_ways_with_bid c (sp_ways_with_bid (n + 1)) { nx := fun _ H' => Q .non H', rt := Q } (start ["doubled_number", "passes", "by_other", "higher", "behind_double", "ways", "may_double", "turn"] vs) H := by
  obtain ⟨z, ⟨d, p, hh, o, rfl, hn, hd, hp, rfl⟩, k⟩ := h
  rw [waysB_loop d p o hh hd] at k
  refine q_asg ev_c fun H1 e1 => ?_
  have rest : ∀ (H2 : Hp), Ex H H2 → (tSeq (tAsg (tC (.int 1)) (gName 5))
      (tSeq (tAsg (tVar 2) (gName 6))
      (tSeq (tFor (iRng2 (tCons (tVar 1) (tCons (tC (.int 3)) tNil))) (gName 7) (tSeq (tAsg (tOp rAddI (tVar 5) (tVar 3)) (gName 5))
      (tSeq (tIfS (tB (tVar 6)) (tAsg (tOp rAddI (tVar 5) (tVar 4)) (gName 5)) tNext)
      (tAsg (tNotV (tVar 6)) (gName 6)))))
      (tRet (tVar 5))))) { nx := fun _ H' => Q .non H', rt := Q } [some (.int (d : Nat)), some (.int (p : Nat)), some (.bl o), some (.int (hh : Nat)), some (.int (bdW d hh : Nat)), none, none, none] H2 := fun H2 e2 => by
    refine q_asg ev_c fun H3 e3 => ?_
    refine q_asg (ev_var rfl) fun H4 e4 => ?_
    refine q_forR2 (lo := (p : Nat)) (n := 3) (ea_cons (ev_var rfl) (ea_cons ev_c ea_nil)) (by omega) (fun i σ H' => ∃ y, σ = [some (.int (d : Nat)), some (.int (p : Nat)), some (.bl o), some (.int (hh : Nat)), some (.int (bdW d hh : Nat)), some (.int (waysLoop hh (bdW d hh) i o 1 : Nat)), some (.bl (if i % 2 = 0 then o else !o)), y] ∧ Ex H H') (fun H5 e5 => ⟨none, rfl, ((e2.trans e3).trans e4).trans e5⟩) ?_ ?_
    · rintro i σ' H' hi ⟨y, rfl, e⟩
      have es := waysLoop_snoc hh (bdW d hh) i o 1
      have em : (if (i + 1) % 2 = 0 then o else !o) = !(if i % 2 = 0 then o else !o) := by
        by_cases q : i % 2 = 0
        · rw [if_pos q, if_neg (by omega)]
        · rw [if_neg q, if_pos (by omega), Bool.not_not]
      generalize (if i % 2 = 0 then o else !o) = mb at *
      refine q_asg (v := .int ((waysLoop hh (bdW d hh) i o 1 + hh : Nat) : Int)) (ev_is (ev_op (ev_var rfl) (ev_var rfl) rv_I0) (by simp)) fun H5 e5 => ?_
      refine q_ifAsg (v := .int (waysLoop hh (bdW d hh) (i + 1) o 1 : Nat)) (et_B (ev_var rfl)) (fun hb => ?_) (fun hb => ?_) fun H6 e6 => ?_
      · rw [es, if_pos hb]
        exact ev_is (ev_op (ev_var rfl) (ev_var rfl) rv_I0) (by simp)
      · rw [es, if_neg (by rw [hb]; exact Bool.false_ne_true)]
        rfl
      · exact s_asg (ev_notV (ev_var rfl)) fun H7 e7 => ⟨_, by rw [em]; rfl, ((e.trans e5).trans e6).trans e7⟩
    · rintro σ' H' ⟨y, rfl, e⟩
      have e3 : ((3 : Int) - (p : Nat)).toNat = 3 - p := by omega
      rw [e3]
      exact s_ret (ev_var rfl) fun H5 e5 => k H5 (e.trans e5)
  refine q_when (b := decide (d < 2)) (et_is (et_test (ev_op (ev_var rfl) ev_c rv_I0)) (by rw [Bool.eq_iff_iff]; simp; omega)) (fun hb H2 e2 => ?_) (fun hb H2 e2 => ?_)
  · have hb := of_decide_eq_true hb
    have eb : bdW d hh = waysB (d + 1) 0 true hh := if_pos hb
    refine s_asg (v := .int (bdW d hh : Nat)) ?_ fun H3 e3 => rest H3 ((e1.trans e2).trans e3)
    rw [eb]
    exact ev_call (ea_cons (ev_op (ev_var rfl) ev_c rv_I0) (ea_cons ev_c (ea_cons ev_c (ea_cons (ev_var rfl) ea_nil)))) (sv_ways_with_bid (d := d + 1) (p := 0) (by omega) (by omega) (by omega))
  · have hb := of_decide_eq_false hb
    have eb : bdW d hh = 0 := if_neg hb
    have r := rest H2 (e1.trans e2)
    rw [eb] at r
    exact r
theorem pure_longest_with_bid (n : Nat) (vs : List V) (H : Hp) (Q : VK) (E : XK) (h : sp_longest_with_bid n vs H Q E) : t_longest_with_bid c (sp_longest_with_bid (n + 1)) { nx := fun _ H' => Q .non H', rt := Q } (start ["doubled_number", "passes", "by_other", "behind_bid", "behind_double", "most", "may_double", "turn", "before"] vs) H := by
  obtain ⟨z, ⟨d, p, hh, o, rfl, hn, hd, hp, rfl⟩, k⟩ := h
  rw [longB_loop d p o hh hd] at k
  refine q_asg ev_c fun H1 e1 => ?_
  have rest : ∀ (H2 : Hp), Ex H H2 → (tSeq (tAsg (tCB rMax2 (tCons (tC (.int 0)) (tCons (tOp rSubI (tC (.int 3)) (tVar 1)) tNil))) (gName 5))
    (tSeq (tAsg (tVar 2) (gName 6))
    (tSeq (tFor (iRng2 (tCons (tVar 1) (tCons (tC (.int 3)) tNil))) (gName 7) (tSeq (tAsg (tOp rSubI (tVar 7) (tVar 1)) (gName 8))
    (tSeq (tIfS (tTest (tOp rGtI (tVar 3) (tC (.int 0)))) (tAsg (tCB rMax2 (tCons (tVar 5) (tCons (tOp rAddI (tVar 8) (tVar 3)) tNil))) (gName 5)) tNext)
    (tSeq (tIfS (tAnd (tB (tVar 6)) (tTest (tOp rGtI (tVar 4) (tC (.int 0))))) (tAsg (tCB rMax2 (tCons (tVar 5) (tCons (tOp rAddI (tVar 8) (tVar 4)) tNil))) (gName 5)) tNext)
    (tAsg (tNotV (tVar 6)) (gName 6))))))
    (tRet (tVar 5))))) { nx := fun _ H' => Q .non H', rt := Q } [some (.int (d : Nat)), some (.int (p : Nat)), some (.bl o), some (.int (hh : Nat)), some (.int (bdL d hh : Nat)), none, none, none, none] H2 := fun H2 e2 => by
    refine q_asg (v := .int (3 - p : Nat)) (ev_is (ev_max2 (i := 0) ev_c (ev_op ev_c (ev_var rfl) rv_I0)) ?_) fun H3 e3 => ?_
    · by_cases q : (3 : Int) - (p : Nat) > 0
      · rw [if_pos q]
        congr 1
        omega
      · rw [if_neg q]
        congr 1
        omega
    refine q_asg (ev_var rfl) fun H4 e4 => ?_
    refine q_forR2 (lo := (p : Nat)) (n := 3) (ea_cons (ev_var rfl) (ea_cons ev_c ea_nil)) (by omega) (fun i σ H' => ∃ y1 y2, σ = [some (.int (d : Nat)), some (.int (p : Nat)), some (.bl o), some (.int (hh : Nat)), some (.int (bdL d hh : Nat)), some (.int (longLoop hh (bdL d hh) i 0 o (3 - p) : Nat)), some (.bl (if i % 2 = 0 then o else !o)), y1, y2] ∧ Ex H H') (fun H5 e5 => ⟨none, none, rfl, ((e2.trans e3).trans e4).trans e5⟩) ?_ ?_
    · rintro i σ' H' hi ⟨y1, y2, rfl, e⟩
      have es := longLoop_snoc hh (bdL d hh) i 0 o (3 - p)
      rw [Nat.zero_add] at es
      have em : (if (i + 1) % 2 = 0 then o else !o) = !(if i % 2 = 0 then o else !o) := by
        by_cases q : i % 2 = 0
        · rw [if_pos q, if_neg (by omega)]
        · rw [if_neg q, if_pos (by omega), Bool.not_not]
      generalize (if i % 2 = 0 then o else !o) = mb at *
      unfold stepL at es
      generalize longLoop hh (bdL d hh) i 0 o (3 - p) = m0 at *
      refine q_asg (v := .int (i : Nat)) (ev_is (ev_op (ev_var rfl) (ev_var rfl) rv_I0) (by congr 1; omega)) fun H5 e5 => ?_
      refine q_ifAsg (b := decide (0 < hh)) (v := .int (if 0 < hh then max m0 (i + hh) else m0 : Nat)) (et_is (et_test (ev_op (ev_var rfl) ev_c rv_I0)) (by rw [Bool.eq_iff_iff]; simp)) (fun hb => ?_) (fun hb => ?_) fun H6 e6 => ?_
      · rw [if_pos (of_decide_eq_true hb)]
        exact ev_maxN (ev_var rfl) (ev_is (ev_op (ev_var rfl) (ev_var rfl) rv_I0) (by simp))
      · rw [if_neg (of_decide_eq_false hb)]
        rfl
      generalize (if 0 < hh then max m0 (i + hh) else m0) = m1 at *
      refine q_ifAsg (b := decide (mb = true ∧ 0 < bdL d hh)) (v := .int (if mb = true ∧ 0 < bdL d hh then max m1 (i + bdL d hh) else m1 : Nat)) (et_is (et_and (et_B (ev_var rfl)) fun _ => et_test (ev_op (ev_var rfl) ev_c rv_I0)) (by rw [Bool.eq_iff_iff]; simp)) (fun hb => ?_) (fun hb => ?_) fun H7 e7 => ?_
      · rw [if_pos (of_decide_eq_true hb)]
        exact ev_maxN (ev_var rfl) (ev_is (ev_op (ev_var rfl) (ev_var rfl) rv_I0) (by simp))
      · rw [if_neg (of_decide_eq_false hb)]
        rfl
      exact s_asg (ev_notV (ev_var rfl)) fun H8 e8 => ⟨_, _, by rw [em, es]; rfl, (((e.trans e5).trans e6).trans e7).trans e8⟩
    · rintro σ' H' ⟨y1, y2, rfl, e⟩
      have e3 : ((3 : Int) - (p : Nat)).toNat = 3 - p := by omega
      rw [e3]
      exact s_ret (ev_var rfl) fun H5 e5 => k H5 (e.trans e5)
  refine q_when (b := decide (d < 2)) (et_is (et_test (ev_op (ev_var rfl) ev_c rv_I0)) (by rw [Bool.eq_iff_iff]; simp; omega)) (fun hb H2 e2 => ?_) (fun hb H2 e2 => ?_)
  · have hb := of_decide_eq_true hb
    have eb : bdL d hh = 1 + longB (d + 1) 0 true hh := if_pos hb
    refine s_asg (v := .int (bdL d hh : Nat)) ?_ fun H3 e3 => rest H3 ((e1.trans e2).trans e3)
    rw [eb]
    exact ev_is (ev_op ev_c (ev_call (ea_cons (ev_op (ev_var rfl) ev_c rv_I0) (ea_cons ev_c (ea_cons ev_c (ea_cons (ev_var rfl) ea_nil)))) (sv_longest_with_bid (d := d + 1) (p := 0) (by omega) (by omega) (by omega))) rv_I0) (by simp)
  · have hb := of_decide_eq_false hb
    have eb : bdL d hh = 0 := if_neg hb
    have r := rest H2 (e1.trans e2)
    rw [eb] at r
    exact r
theorem pure_ways_from_bids (vs : List V) (H : Hp) (Q : VK) (E : XK) (h : sp_ways_from_bids vs H Q E) : t_ways_from_bids c (sp_ways_with_bid 0) { nx := fun _ H' => Q .non H', rt := Q } (start ["sums", "bid"] vs) H := by
  obtain ⟨rfl, k⟩ := h
  refine q_asgL (xs := nV (sumsFrom 0)) (el_lst (ea_cons ev_c ea_nil) (by decide)) fun p H1 hp e1 h1 => ?_
  refine q_forR1 (n := 35) (ea_cons ev_c ea_nil) (by omega) (fun i σ H' => ∃ y, σ = [some (.ref p), y] ∧ Ex H H' ∧ H' p = some (.lst (nV (sumsFrom i)))) (fun H2 e2 => ⟨none, rfl, e1.trans e2, e2 _ _ h1⟩) ?_ ?_
  · rintro i σ' H' hi ⟨y, rfl, e, hl⟩
    have hix : Ev (tOp (rIxL c.K) (tVar 0) (tC (.int 0))) [some (.ref p), some (.int (i : Nat))] H' (.int ((sumsFrom i).headD 0 : Nat)) := by
      refine ev_op (ev_var rfl) ev_c (rv_ixL (SqL.of hl) (atI_nat (j := 0) ?_))
      cases q : sumsFrom i with
      | nil => have := sumsFrom_len i; rw [q] at this; cases this
      | cons x r => rfl
    refine s_ins0 hl (ev_var rfl) (v := .int ((sumsFrom i).headD 0 + waysB 0 0 true ((sumsFrom i).headD 0) : Nat)) (ev_is (ev_op hix (ev_call (ea_cons ev_c (ea_cons ev_c (ea_cons ev_c (ea_cons hix ea_nil)))) (sv_ways_with_bid (d := 0) (p := 0) (by omega) (by omega) (by omega))) rv_I0) (by simp)) (by rw [nV_len, sumsFrom_len]; omega) fun H2 e2 => ?_
    exact ⟨_, rfl, (e.trans e2).mut hp, upd_same⟩
  · rintro σ' H' ⟨y, rfl, e, hl⟩
    exact s_ret (ev_var rfl) fun H2 e2 => k p H2 hp (e.trans e2) (e2 _ _ hl)
theorem pure_ways_of (Z : Zs c) (vs : List V) (H : Hp) (Q : VK) (E : XK) (h : sp_ways_of c vs H Q E) : t_ways_of c (sp_is_at_end c) sp_passes_to_end (sp_ways_with_bid 0) { nx := fun _ H' => Q .non H', rt := Q } (start ["position", "sums", "higher"] vs) H := by
  obtain ⟨z, ⟨a, b, q, rfl, P, hs, ⟨v0, v1, v2⟩, rfl⟩, k⟩ := h
  unfold waysP at k
  refine StX.go (H := H) ?_
  refine x_when (et_B (ev_call (ea_cons (ev_var rfl) ea_nil) (sv_is_at_end P))) (fun hb => ?_) (fun hb => ?_)
  · rw [if_pos hb] at k
    exact x_ret ev_c k
  rw [if_neg (by rw [hb]; exact Bool.false_ne_true)] at k
  have hix : atI (nV sums) (q.bid + 1) = some (.int (sums.getD (q.bid + 1).toNat 0 : Nat)) := by
    have e : q.bid + 1 = (((q.bid + 1).toNat : Nat) : Int) := by omega
    rw [e]
    refine atI_nat ?_
    rw [Int.toNat_natCast]
    refine nV_get ?_
    have hl : (q.bid + 1).toNat < sums.length := by rw [sums_len]; omega
    rw [List.getD_eq_getElem?_getD, List.getElem?_eq_getElem hl]
    rfl
  refine x_set (ev_op (ev_var rfl) (ev_op (pv_bid (q := q) Z P (ev_var rfl)) ev_c rv_I0) (rv_ixL hs hix)) ?_
  have hp : ¬ ((if q.bid = -1 then 4 else 3 : Int) ≤ (q.p : Nat)) := of_decide_eq_false hb
  refine x_when (b := decide (q.bid = -1)) (et_is (et_test (ev_op (pv_bid (q := q) Z P (ev_var rfl)) ev_c (rv_eq rfl))) (by simp)) (fun hb2 => ?_) (fun hb2 => ?_)
  · have hb2 := of_decide_eq_true hb2
    rw [if_pos hb2] at k hp
    have e0 : (q.bid + 1).toNat = 0 := by omega
    rw [e0]
    refine x_ret (ev_op ev_c (ev_op (ev_op (ev_call (ea_cons ev_c ea_nil) sv_passes_to_end) (pv_p (q := q) Z P (ev_var rfl)) rv_I0) (ev_var rfl) (rv_I (.inl ⟨by simp; omega, by simp; omega⟩))) rv_I0) (ret_is k ?_)
    congr 1
    rw [if_pos rfl]
    have : (4 : Int) - (q.p : Nat) = ((4 - q.p : Nat) : Int) := by omega
    rw [this]
    simp
  · have hb2 := of_decide_eq_false hb2
    rw [if_neg hb2] at k hp
    exact x_ret (ev_call (ea_cons (pv_d (q := q) Z P (ev_var rfl)) (ea_cons (pv_p (q := q) Z P (ev_var rfl)) (ea_cons (pv_o (q := q) Z P (ev_var rfl)) (ea_cons (ev_var rfl) ea_nil)))) (sv_ways_with_bid (by omega) v2 (by omega))) k
theorem pure_longest_from_bid (vs : List V) (H : Hp) (Q : VK) (E : XK) (h : sp_longest_from_bid vs H Q E) : t_longest_from_bid c (sp_longest_with_bid 0) { nx := fun _ H' => Q .non H', rt := Q } (start ["least", "most", "step"] vs) H := by
  obtain ⟨z, ⟨n, rfl, hn, rfl⟩, k⟩ := h
  refine q_asg (v := .int (longFrom 0 : Nat)) ev_c fun H1 e1 => ?_
  refine q_forR1 (n := (n : Nat)) (ea_cons (ev_is (ev_op ev_c (ev_var rfl) rv_I0) (by congr 1; omega)) ea_nil) (by omega) (fun i σ H' => ∃ y, σ = [some (.int (35 - (n : Nat) : Int)), some (.int (longFrom i : Nat)), y] ∧ Ex H H') (fun H2 e2 => ⟨none, rfl, e1.trans e2⟩) ?_ ?_
  · rintro i σ' H' hi ⟨y, rfl, e⟩
    exact s_asg (v := .int (longFrom (i + 1) : Nat)) (ev_maxN (ev_var rfl) (ev_is (ev_op ev_c (ev_call (ea_cons ev_c (ea_cons ev_c (ea_cons ev_c (ea_cons (ev_var rfl) ea_nil)))) (sv_longest_with_bid (d := 0) (p := 0) (by omega) (by omega) (by omega))) rv_I0) (by simp))) fun H2 e2 => ⟨_, rfl, e.trans e2⟩
  · rintro σ' H' ⟨y, rfl, e⟩
    rw [Int.toNat_natCast]
    exact s_ret (ev_var rfl) fun H2 e2 => k H2 (e.trans e2)
theorem pure_longest_of (Z : Zs c) (vs : List V) (H : Hp) (Q : VK) (E : XK) (h : sp_longest_of c vs H Q E) : t_longest_of c (sp_is_at_end c) sp_longest_from_bid (sp_longest_with_bid 0) sp_passes_to_end { nx := fun _ H' => Q .non H', rt := Q } (start ["position", "behind_bid"] vs) H := by
  obtain ⟨z, ⟨a, q, rfl, P, ⟨v0, v1, v2⟩, rfl⟩, k⟩ := h
  unfold longP at k
  refine StX.go (H := H) ?_
  refine x_when (et_B (ev_call (ea_cons (ev_var rfl) ea_nil) (sv_is_at_end P))) (fun hb => ?_) (fun hb => ?_)
  · rw [if_pos hb] at k
    exact x_ret ev_c k
  rw [if_neg (by rw [hb]; exact Bool.false_ne_true)] at k
  have hp : ¬ ((if q.bid = -1 then 4 else 3 : Int) ≤ (q.p : Nat)) := of_decide_eq_false hb
  refine x_set (v := .int (longFrom (34 - q.bid).toNat : Nat)) (ev_call (ea_cons (ev_is (ev_op (pv_bid (q := q) Z P (ev_var rfl)) ev_c rv_I0) (show V.int (q.bid + 1) = V.int (35 - ((34 - q.bid).toNat : Nat) : Int) by congr 1; omega)) ea_nil) (RetSp.sv fun _ _ => ⟨(34 - q.bid).toNat, rfl, by omega, rfl⟩)) ?_
  refine x_when (b := decide (q.bid = -1)) (et_is (et_test (ev_op (pv_bid (q := q) Z P (ev_var rfl)) ev_c (rv_eq rfl))) (by simp)) (fun hb2 => ?_) (fun hb2 => ?_)
  · have hb2 := of_decide_eq_true hb2
    rw [if_pos hb2] at k hp
    refine x_ret (ev_op (ev_op (ev_op (ev_call (ea_cons ev_c ea_nil) sv_passes_to_end) ev_c rv_I0) (pv_p (q := q) Z P (ev_var rfl)) rv_I0) (ev_var rfl) rv_I0) (ret_is k ?_)
    congr 1
    rw [if_pos rfl]
    omega
  · have hb2 := of_decide_eq_false hb2
    rw [if_neg hb2] at k hp
    exact x_ret (ev_call (ea_cons (pv_d (q := q) Z P (ev_var rfl)) (ea_cons (pv_p (q := q) Z P (ev_var rfl)) (ea_cons (pv_o (q := q) Z P (ev_var rfl)) (ea_cons (ev_var rfl) ea_nil)))) (sv_longest_with_bid (by omega) v2 (by omega))) k
theorem pure_legal_calls (Z : Zs c) (vs : List V) (H : Hp) (Q : VK) (E : XK) (h : sp_legal_calls c vs H Q E) : t_legal_calls c { nx := fun _ H' => Q .non H', rt := Q } (start ["position", "calls", "bid"] vs) H := by
  obtain ⟨a, q, rfl, P, ⟨v0, v1, v2⟩, k⟩ := h
  refine q_asgL (xs := nV [0]) (el_lst (ea_cons ev_c ea_nil) (by decide)) fun p H1 hp e1 h1 => ?_
  have P1 := P.mono e1
  have fin : ∀ (H2 : Hp) (l : List Nat), Ex H H2 → H2 p = some (.lst (nV l)) → l.length ≤ 10 → l ++ higherCalls q.bid = legalP q →
      tSeq (tDrop (tBM c.K "list" rExtend (tVar 1) (tCons (tLc (iRng2 (tCons (tOp rAddI (tFld c.K (tVar 0) "bid") (tC (.int 1))) (tCons (tC (.int 35)) tNil))) (gName 2) tYes (tOp rAddI (tC (.int 3)) (tVar 2)) (List.map (fun (q : Str × Nat) => q.2) [(("bid" : Str), 2)])) tNil)))
        (tRet (tVar 1)) { nx := fun _ H' => Q .non H', rt := Q } [some (.ref a), some (.ref p), none] H2 := fun H2 l e2 h2 hl el => by
    have P2 := P.mono e2
    have cq := el_lcR2 (σ := [some (.ref a), some (.ref p), none]) (H := H2) (tA := tCons (tOp rAddI (tFld c.K (tVar 0) "bid") (tC (.int 1))) (tCons (tC (.int 35)) tNil)) (te := tOp rAddI (tC (.int 3)) (tVar 2)) (j := 2) (vs := [2]) (lo := q.bid + 1) (n := 35) (fun i => .int (((4 + q.bid).toNat + i : Nat) : Int))
      (ea_cons (ev_op (pv_bid (q := q) Z P2 (ev_var rfl)) ev_c rv_I0) (ea_cons ev_c ea_nil)) (by omega) (fun _ => rfl) fun i H3 e3 hi => ev_is (ev_op ev_c (ev_var rfl) rv_I0) (congrArg V.int (by omega))
    rw [given_all] at cq
    have e : (List.range ((35 : Int) - (q.bid + 1)).toNat).map (fun i => V.int (((4 + q.bid).toNat + i : Nat) : Int)) = nV (higherCalls q.bid) := by
      unfold higherCalls nV
      rw [List.map_map, show ((35 : Int) - (q.bid + 1)).toNat = (34 - q.bid).toNat by omega]
      rfl
    rw [e] at cq
    refine q_extL h2 (ev_var rfl) cq (by rw [nV_len, nV_len]; unfold higherCalls; rw [List.length_map, List.length_range]; omega) fun H3 e3 => ?_
    refine s_ret (ev_var rfl) fun H4 e4 => k p H4 hp (((e2.trans e3).mut hp).trans e4) ?_
    rw [← el, nV_append]
    exact e4 _ _ upd_same
  refine q_when (b := decide (q.bid ≠ -1) && q.o) (et_is (et_and (et_test (ev_op (pv_bid (q := q) Z P1 (ev_var rfl)) ev_c (rv_ne rfl))) fun _ => et_B (pv_o (q := q) Z P1 (ev_var rfl))) (by simp)) (fun hb H2 e2 => ?_) (fun hb H2 e2 => ?_)
  · have hb' : q.bid ≠ -1 ∧ q.o = true := by simpa using hb
    have P2 := P1.mono e2
    refine s_if (b := decide (q.d = 0)) (et_is (et_test (ev_op (pv_d (q := q) Z P2 (ev_var rfl)) ev_c (rv_eq rfl))) (by rw [Bool.eq_iff_iff]; simp)) (fun hb2 H3 e3 => ?_) (fun hb2 H3 e3 => ?_)
    · have hb2 := of_decide_eq_true hb2
      refine s_app (xs := nV [0]) (v := .int 1) (e3 _ _ (e2 _ _ h1)) (ev_var rfl) ev_c (by decide) fun H4 e4 => ?_
      refine fin _ [0, 1] ((((e1.trans e2).trans e3).trans e4).mut hp) upd_same (by decide) ?_
      unfold legalP
      rw [if_pos hb', if_pos hb2]
    · have hb2 := of_decide_eq_false hb2
      refine s_when (b := decide (q.d = 1)) (et_is (et_test (ev_op (pv_d (q := q) Z (P2.mono e3) (ev_var rfl)) ev_c (rv_eq rfl))) (by rw [Bool.eq_iff_iff]; simp; omega)) (fun hb3 H4 e4 => ?_) (fun hb3 H4 e4 => ?_)
      · have hb3 := of_decide_eq_true hb3
        refine s_app (xs := nV [0]) (v := .int 2) (e4 _ _ (e3 _ _ (e2 _ _ h1))) (ev_var rfl) ev_c (by decide) fun H5 e5 => ?_
        refine fin _ [0, 2] (((((e1.trans e2).trans e3).trans e4).trans e5).mut hp) upd_same (by decide) ?_
        unfold legalP
        rw [if_pos hb', if_neg hb2, if_pos hb3]
      · have hb3 := of_decide_eq_false hb3
        refine fin _ [0] (((e1.trans e2).trans e3).trans e4) (e4 _ _ (e3 _ _ (e2 _ _ h1))) (by decide) ?_
        unfold legalP
        rw [if_pos hb', if_neg hb2, if_neg hb3]
  · have hb' : ¬ (q.bid ≠ -1 ∧ q.o = true) := by
      intro z
      rw [decide_eq_true z.1, z.2] at hb
      cases hb
    refine fin _ [0] (e1.trans e2) (e2 _ _ h1) (by decide) ?_
    unfold legalP
    rw [if_neg hb']
end G
namespace G
open Vbbrac

/-! ### legal calls -/
theorem filter_high : ∀ k, k < 36 → (List.range 35).filter (fun b => decide (k ≤ b)) = (List.range (35 - k)).map fun i => k + i := by decide +kernel
theorem range38 : List.range 38 = [0, 1, 2] ++ (List.range 35).map fun b => 3 + b := by decide +kernel
theorem bid_of_word {m : Made} (D : Dbl m) {x : Nat × Nat} (w : lastWord m = some x) : ∃ y, lastBid m = some y := by
  have h1 := lastWord_pos m x w
  by_cases e1 : x.2 = 1
  · obtain ⟨y, hy, _⟩ := D.one x w e1
    exact ⟨y, hy⟩
  · by_cases e2 : x.2 = 2
    · obtain ⟨y, hy, _⟩ := D.two x w e2
      exact ⟨y, hy⟩
    · exact ⟨_, lastWord_bid m x w (by omega)⟩
theorem lastI_some {m : Made} {y : Nat × Nat} (h : lastBid m = some y) : lastI m = (y.2 : Int) := by unfold lastI; rw [h]
theorem lastI_none {m : Made} (h : lastBid m = none) : lastI m = -1 := by unfold lastI; rw [h]
theorem dbl_part (dl : Nat) {m : Made} (D : Dbl m) :
    (if lastI m ≠ -1 ∧ byOther dl m = true then (if doubled m = 0 then [1] else if doubled m = 1 then [2] else []) else []) =
      (if mayDouble m (turn dl m) = true then [1] else []) ++ (if mayRedouble m (turn dl m) = true then [2] else []) := by
  unfold mayDouble mayRedouble byOther sameSide
  cases w : lastWord m with
  | none => simp
  | some x =>
    obtain ⟨y, hy⟩ := bid_of_word D w
    have hb : lastI m ≠ -1 := by rw [lastI_some hy]; omega
    have hx := lastWord_pos m x w
    rw [doubled_word m x w]
    by_cases o : x.1 % 2 = turn dl m % 2
    · simp [o]
    · by_cases e1 : x.2 = 1
      · simp [o, e1, hb]
      · by_cases e2 : x.2 = 2
        · simp [o, e2]
        · have e3 : 3 ≤ x.2 := by omega
          simp [o, e1, e2, e3, hb]
theorem legal_pos (dl : Nat) {m : Made} (g : Good m) (ho : over m = false) : legals m (turn dl m) = legalP (posOf dl m) := by
  unfold legals legalP
  show _ = (0 :: (if lastI m ≠ -1 ∧ byOther dl m = true then (if doubled m = 0 then [1] else if doubled m = 1 then [2] else []) else [])) ++ higherCalls (lastI m)
  rw [dbl_part dl g.dbl, range38, List.filter_append]
  have e0 : legal m (turn dl m) 0 = true := by unfold legal; rw [ho]; rfl
  have e1 : legal m (turn dl m) 1 = mayDouble m (turn dl m) := by unfold legal; rw [ho]; simp
  have e2 : legal m (turn dl m) 2 = mayRedouble m (turn dl m) := by unfold legal; rw [ho]; simp
  have hl := g.lastI
  have e3 : ∀ b, b < 35 → legal m (turn dl m) (3 + b) = decide ((lastI m + 1).toNat ≤ b) := fun b hb => by
    unfold legal
    rw [ho, if_neg (by omega), if_neg (by omega), if_neg (by omega)]
    have e : 3 + b - 3 = b := by omega
    rw [e]
    unfold enough lastI
    cases lastBid m with
    | none => simp; omega
    | some y =>
      rw [Bool.eq_iff_iff]
      simp
      omega
  have p1 : ([0, 1, 2] : List Nat).filter (fun c => legal m (turn dl m) c) = 0 :: ((if mayDouble m (turn dl m) = true then [1] else []) ++ (if mayRedouble m (turn dl m) = true then [2] else [])) := by
    simp only [List.filter_cons, List.filter_nil, e0, e1, e2]
    by_cases h1 : mayDouble m (turn dl m) = true <;> by_cases h2 : mayRedouble m (turn dl m) = true <;> simp [h1, h2]
  have p2 : ((List.range 35).map fun b => 3 + b).filter (fun c => legal m (turn dl m) c) = higherCalls (lastI m) := by
    rw [List.filter_map]
    have : (List.range 35).filter ((fun c => legal m (turn dl m) c) ∘ fun b => 3 + b) = (List.range 35).filter fun b => decide ((lastI m + 1).toNat ≤ b) :=
      List.filter_congr fun b hb => e3 b (List.mem_range.mp hb)
    rw [this, filter_high _ (by omega), List.map_map]
    unfold higherCalls
    have e4 : 35 - (lastI m + 1).toNat = (34 - lastI m).toNat := by omega
    rw [e4]
    refine List.map_congr_left fun i _ => ?_
    show 3 + ((lastI m + 1).toNat + i) = _
    omega
  rw [p1, p2]
theorem legal_good {dl : Nat} (hd : dl ≤ 3) {m : Made} (g : Good m) {c : Nat} (h : legal m (turn dl m) c = true) : Good (m ++ [(turn dl m, c)]) ∧ c ≤ 37 := by
  have hc : c ≤ 37 := by
    unfold legal at h
    by_cases h0 : c = 0
    · omega
    · by_cases h1 : c = 1
      · omega
      · by_cases h2 : c = 2
        · omega
        · rw [if_neg h0, if_neg h1, if_neg h2] at h
          simp at h
          omega
  refine ⟨⟨g.dbl.snoc (fun e => ?_) (fun e => ?_), fun x hx => ?_⟩, hc⟩
  · subst e
    unfold legal at h
    simp at h
    exact h.2
  · subst e
    unfold legal at h
    simp at h
    exact h.2
  · rcases List.mem_append.mp hx with q | q
    · exact g.le x q
    · rw [List.mem_singleton.mp q]
      exact ⟨turn_lt hd m, hc⟩
theorem behind_pos (dl : Nat) {m : Made} (g : Good m) (c : Nat) : behindP (posOf dl m) c = posOf dl (m ++ [(turn dl m, c)]) := by
  have hl : lastI (m ++ [(turn dl m, c)]) = if 3 ≤ c then (c : Int) - 3 else lastI m := by
    unfold lastI
    rw [lastBid_append]
    by_cases h : 3 ≤ c
    · rw [if_pos h, if_pos h]
      show ((c - 3 : Nat) : Int) = _
      omega
    · rw [if_neg h, if_neg h]
  have ho : byOther dl (m ++ [(turn dl m, c)]) = if 1 ≤ c then true else decide (lastI m ≠ -1) && !byOther dl m := by
    unfold byOther
    rw [lastWord_append, turn_append]
    by_cases h : 1 ≤ c
    · rw [if_pos h, if_pos h]
      show decide (turn dl m % 2 ≠ (turn dl m + 1) % 4 % 2) = true
      simp
      omega
    · rw [if_neg h, if_neg h]
      cases w : lastWord m with
      | none =>
        rw [lastI_none (lastWord_none m w)]
        rfl
      | some x =>
        obtain ⟨y, hy⟩ := bid_of_word g.dbl w
        rw [lastI_some hy]
        show decide (x.1 % 2 ≠ (turn dl m + 1) % 4 % 2) = (decide ((y.2 : Int) ≠ -1) && !decide (x.1 % 2 ≠ turn dl m % 2))
        rw [Bool.eq_iff_iff]
        simp
        omega
  unfold posOf
  rw [hl, ho, doubled_append, passes_append]
  by_cases h0 : c = 0
  · subst h0
    rfl
  · by_cases h3 : c < 3
    · rw [behindP_dbl h0 h3]
      have h1 : ¬ 3 ≤ c := by omega
      have h2 : 1 ≤ c := by omega
      simp only [h0, h1, h2, if_true, if_false]
      by_cases h4 : c = 1
      · simp [h4]
      · have h5 : c = 2 := by omega
        simp [h5]
    · rw [behindP_bid (by omega)]
      have h1 : 3 ≤ c := by omega
      have h2 : 1 ≤ c := by omega
      have h4 : ¬ c = 1 := by omega
      have h5 : ¬ c = 2 := by omega
      simp only [h0, h1, h2, h4, h5, if_true, if_false]
theorem Good.nil : Good [] := ⟨Dbl.nil, fun x h => by cases h⟩
theorem first_pos (dl : Nat) : posOf dl [] = first := rfl

/-! ### the longest -/
theorem longB_low (d p : Nat) (o : Bool) (hd : d ≤ 2) (hp : p ≤ 2) : longB d p o 0 = far STEPS d p (if d = 1 then !o else o) := by
  have e : d = 0 ∨ d = 1 ∨ d = 2 := by omega
  have e2 : p = 0 ∨ p = 1 ∨ p = 2 := by omega
  rcases e with rfl | rfl | rfl <;> rcases e2 with rfl | rfl | rfl <;> cases o <;> decide +kernel
theorem longB_high (d p : Nat) (o : Bool) (n : Nat) (hd : d ≤ 2) (hp : p ≤ 2) : longB d p o (9 * n + 10) = far STEPS d p (if d = 1 then !o else o) + 9 * (n + 1) := by
  have e : d = 0 ∨ d = 1 ∨ d = 2 := by omega
  have e2 : p = 0 ∨ p = 1 ∨ p = 2 := by omega
  have hb : 0 < 9 * n + 10 := by omega
  have hp1 : ∀ x : Nat, (0 < 1 + x) = True := fun x => eq_true (by omega)
  rcases e with rfl | rfl | rfl <;> rcases e2 with rfl | rfl | rfl <;> cases o <;>
    simp only [longB, longB0, longB1, longB2, longLoop, far, STEPS, hb, hp1, if_pos, if_true, Bool.not_true, Bool.not_false, Nat.reduceSub, Nat.reduceAdd, reduceIte] <;> simp <;> omega
theorem longFrom_eq : ∀ n, longFrom (n + 1) = 9 * n + 10
  | 0 => by decide +kernel
  | n + 1 => by
    show max (longFrom (n + 1)) (1 + longB 0 0 true (longFrom (n + 1))) = _
    rw [longFrom_eq n, longB_high 0 0 true n (by omega) (by omega)]
    have : far STEPS 0 0 (if (0 : Nat) = 1 then !true else true) = 9 := by decide +kernel
    rw [this]
    omega
theorem longB_2 (p : Nat) (o o' : Bool) (b : Nat) (hp : p ≤ 2) : longB 2 p o b = longB 2 p o' b := by
  have e2 : p = 0 ∨ p = 1 ∨ p = 2 := by omega
  rcases e2 with rfl | rfl | rfl <;> cases o <;> cases o' <;> simp [longB, longB2, longLoop]
theorem long_pos (dl : Nat) {m : Made} (g : Good m) : longP (posOf dl m) = longest dl m := by
  unfold longP longest
  rw [atEnd_posOf]
  by_cases ho : over m = true
  · rw [if_pos ho, if_pos ho]
  · rw [if_neg ho, if_neg ho]
    cases hb : lastBid m with
    | none =>
      have e : (posOf dl m).bid = -1 := lastI_none hb
      rw [if_pos e, e]
      show 3 - passes m + longFrom 35 = 3 - passes m + 1 + far STEPS 0 0 true + 9 * 34
      rw [longFrom_eq 34]
      have : far STEPS 0 0 true = 9 := by decide +kernel
      rw [this]
    | some y =>
      have e : (posOf dl m).bid = (y.2 : Int) := lastI_some hb
      have e2 : ¬ (posOf dl m).bid = -1 := by rw [e]; omega
      rw [if_neg e2, e]
      have hy := (g.bid hb).2
      have hp : passes m ≤ 2 := by
        unfold over at ho
        rw [hb] at ho
        simp at ho
        omega
      show longB (doubled m) (passes m) (byOther dl m) (longFrom (34 - (y.2 : Int)).toNat) = far STEPS (doubled m) (passes m) (!sameSide y.1 (turn dl m)) + 9 * (34 - y.2)
      have e3 : (34 - (y.2 : Int)).toNat = 34 - y.2 := by omega
      rw [e3]
      have key : ∀ o, longB (doubled m) (passes m) o (longFrom (34 - y.2)) = far STEPS (doubled m) (passes m) (if doubled m = 1 then !o else o) + 9 * (34 - y.2) := fun o => by
        cases hn : 34 - y.2 with
        | zero => exact longB_low _ _ _ (doubled_le m) hp
        | succ n =>
          rw [longFrom_eq n]
          exact longB_high _ _ _ n (doubled_le m) hp
      rcases other_bid g.dbl dl hb with h | h
      · rw [← h, key]
        by_cases q : doubled m = 1
        · rw [if_pos q, if_pos q, Bool.not_not]
        · rw [if_neg q, if_neg q]
      · have k := key (!sameSide y.1 (turn dl m))
        rw [h] at k ⊢
        rw [longB_2 _ _ (!sameSide y.1 (turn dl m)) _ hp]
        exact k

/-! ### the ways behind all calls are the ways -/
theorem ways_bid {j : Nat} (h : j ≤ 34) : waysP ⟨(j : Int), 0, 0, true⟩ = 21 * behind (34 - j) + 7 := by
  unfold waysP atEnd
  have e1 : ¬ ((j : Int) = -1) := by omega
  rw [if_neg (by simp [e1]), if_neg e1]
  show waysB 0 0 true (sums.getD ((j : Int) + 1).toNat 0) = _
  have e2 : ((j : Int) + 1).toNat = j + 1 := by omega
  rw [e2, sums_get _ (by omega), waysB_0]
  congr 3
  omega
theorem sum_high : ∀ k, k ≤ 35 → ((List.range k).map fun i => waysP ⟨((35 - k + i : Nat) : Int), 0, 0, true⟩).sum = behind k
  | 0, _ => rfl
  | k + 1, h => by
    rw [List.range_succ_eq_map, List.map_cons, List.map_map, List.sum_cons]
    have e : ((fun i => waysP ⟨((35 - (k + 1) + i : Nat) : Int), 0, 0, true⟩) ∘ Nat.succ) = fun i => waysP ⟨((35 - k + i : Nat) : Int), 0, 0, true⟩ := by
      funext i
      show waysP ⟨((35 - (k + 1) + (i + 1) : Nat) : Int), 0, 0, true⟩ = _
      congr 3
      omega
    rw [e, sum_high k (by omega), ways_bid (by omega)]
    show 21 * behind (34 - (35 - (k + 1) + 0)) + 7 + behind k = 22 * behind k + 7
    have e2 : 34 - (35 - (k + 1) + 0) = k := by omega
    rw [e2]
    omega
theorem sum_higher (q : Pz) (h0 : -1 ≤ q.bid) (h1 : q.bid ≤ 34) : ((higherCalls q.bid).map fun x => waysP (behindP q x)).sum = sums.getD (q.bid + 1).toNat 0 := by
  have hs := sum_high (34 - q.bid).toNat (by omega)
  rw [sums_get _ (by omega)]
  have e : 35 - (q.bid + 1).toNat = (34 - q.bid).toNat := by omega
  rw [e, ← hs]
  unfold higherCalls
  rw [List.map_map]
  congr 1
  refine List.map_congr_left fun i hi => ?_
  have := List.mem_range.mp hi
  show waysP (behindP q ((4 + q.bid).toNat + i)) = _
  rw [behindP_bid (by omega)]
  congr 2
  omega
theorem sum_low (d p : Nat) (o : Bool) (h : Nat) (hd : d ≤ 2) (hp : p ≤ 2) :
    (if 3 ≤ p + 1 then 1 else waysB d (p + 1) (!o) h) + (if o = true then (if d = 0 then waysB 1 0 true h else if d = 1 then waysB 2 0 true h else 0) else 0) + h = waysB d p o h := by
  have e : d = 0 ∨ d = 1 ∨ d = 2 := by omega
  have e2 : p = 0 ∨ p = 1 ∨ p = 2 := by omega
  rcases e with rfl | rfl | rfl <;> rcases e2 with rfl | rfl | rfl <;> cases o <;>
    simp [waysB, waysB0, waysB1, waysB2, waysLoop] <;> omega
theorem ways_sum (q : Pz) (h0 : -1 ≤ q.bid) (h1 : q.bid ≤ 34) (hd : q.d ≤ 2) (he : atEnd q = false) : ((legalP q).map fun x => waysP (behindP q x)).sum = waysP q := by
  have hp : ¬ ((if q.bid = -1 then 4 else 3 : Int) ≤ (q.p : Nat)) := of_decide_eq_false he
  unfold legalP
  rw [List.map_append, List.sum_append, sum_higher q h0 h1, List.map_cons, List.sum_cons]
  have hpass : behindP q 0 = ⟨q.bid, q.d, q.p + 1, decide (q.bid ≠ -1) && !q.o⟩ := rfl
  rw [hpass]
  have hw : waysP q = if q.bid = -1 then 1 + (4 - q.p) * sums.getD 0 0 else waysB q.d q.p q.o (sums.getD (q.bid + 1).toNat 0) := by
    unfold waysP
    rw [if_neg (by rw [he]; exact Bool.false_ne_true)]
  rw [hw]
  by_cases hb : q.bid = -1
  · rw [if_pos hb] at hp
    rw [if_pos hb, if_neg (by intro z; exact z.1 hb)]
    have e0 : (q.bid + 1).toNat = 0 := by omega
    rw [e0]
    unfold waysP atEnd
    simp only [hb, if_true, decide_eq_true_eq, List.map_nil, List.sum_nil]
    by_cases h3 : q.p = 3
    · rw [if_pos (by omega), h3]
      omega
    · rw [if_neg (by omega)]
      have e1 : 4 - q.p = (4 - (q.p + 1)) + 1 := by omega
      rw [e1, Nat.add_mul]
      omega
  · rw [if_neg hb] at hp
    rw [if_neg hb]
    have hp2 : q.p ≤ 2 := by omega
    have sl := sum_low q.d q.p q.o (sums.getD (q.bid + 1).toNat 0) hd hp2
    have ed : (decide (q.bid ≠ -1) && !q.o) = !q.o := by simp [hb]
    rw [ed]
    have e1 : waysP ⟨q.bid, q.d, q.p + 1, !q.o⟩ = if 3 ≤ q.p + 1 then 1 else waysB q.d (q.p + 1) (!q.o) (sums.getD (q.bid + 1).toNat 0) := by
      unfold waysP atEnd
      simp only [hb, if_false, decide_eq_true_eq]
      by_cases h3 : 3 ≤ q.p + 1
      · rw [if_pos (by omega), if_pos h3]
      · rw [if_neg (by omega), if_neg h3]
    have e2 : ∀ x, waysP ⟨q.bid, x, 0, true⟩ = waysB x 0 true (sums.getD (q.bid + 1).toNat 0) := fun x => by
      unfold waysP atEnd
      simp [hb]
    rw [e1]
    by_cases ho : q.o = true
    · rw [if_pos (show q.bid ≠ -1 ∧ q.o = true from ⟨hb, ho⟩)]
      rw [if_pos ho] at sl
      by_cases d0 : q.d = 0
      · rw [if_pos d0] at sl ⊢
        rw [List.map_cons, List.map_nil, List.sum_cons, List.sum_nil, behindP_dbl (by omega) (by omega), e2]
        omega
      · rw [if_neg d0] at sl ⊢
        by_cases d1 : q.d = 1
        · rw [if_pos d1] at sl ⊢
          rw [List.map_cons, List.map_nil, List.sum_cons, List.sum_nil, behindP_dbl (by omega) (by omega), e2]
          omega
        · rw [if_neg d1] at sl ⊢
          rw [List.map_nil, List.sum_nil]
          omega
    · rw [if_neg (show ¬(q.bid ≠ -1 ∧ q.o = true) from fun z => ho z.2)]
      rw [if_neg ho] at sl
      rw [List.map_nil, List.sum_nil]
      omega
theorem find_some {q : Pz} {n : Nat} : ∀ (l : List Nat) (b : Nat), b ≤ n → n < b + (l.map fun x => waysP (behindP q x)).sum → ∃ x, findCall q n b l = some x ∧ x.1 ∈ l ∧ x.2 ≤ n ∧ n - x.2 < waysP (behindP q x.1)
  | [], b, h1, h2 => by simp at h2; omega
  | c :: r, b, h1, h2 => by
    unfold findCall
    rw [List.map_cons, List.sum_cons] at h2
    by_cases h : n < b + waysP (behindP q c)
    · rw [if_pos h]
      exact ⟨_, rfl, List.mem_cons_self, h1, by show n - b < waysP (behindP q c); omega⟩
    · rw [if_neg h]
      obtain ⟨x, e, h3, h4⟩ := find_some (q := q) (n := n) r (b + waysP (behindP q c)) (by omega) (by omega)
      exact ⟨x, e, List.mem_cons_of_mem _ h3, h4⟩
theorem find_legal {q : Pz} {n : Nat} (h0 : -1 ≤ q.bid) (h1 : q.bid ≤ 34) (hd : q.d ≤ 2) (he : atEnd q = false) (hn : n < waysP q) : ∃ x, findCall q n 0 (legalP q) = some x ∧ x.1 ∈ legalP q ∧ x.2 ≤ n ∧ n - x.2 < waysP (behindP q x.1) :=
  find_some (legalP q) 0 (by omega) (by rw [ways_sum q h0 h1 hd he]; omega)
end G
namespace G
open PySem PySem.Spec PyProof.Rows L2 Evl
local macro_rules | `(tactic| walk_at "ea") => `(tactic| first
  | with_reducible exact ea_nil
  | ((with_reducible refine' ea_cons ?eah ?eat); (case eah => walk_at "ev"); (case eat => walk_at "ea")))
local macro_rules | `(tactic| walk_at "rv") => `(tactic| first
  | with_reducible exact rv_I0
  | with_reducible exact rv_isN0
  | with_reducible exact rv_isNr
  | with_reducible exact rv_isNi
  | with_reducible exact rv_notN0
  | with_reducible exact rv_notNr
  | with_reducible exact rv_notNi
  | with_reducible exact rv_isN
  | with_reducible exact rv_notN
  | ((with_reducible refine' rv_eq ?rve); (case rve => rfl))
  | ((with_reducible refine' rv_ne ?rve); (case rve => rfl))
  | ((with_reducible refine' rv_I ?rve); (case rve => first | (exact (by decide)) | ((try dsimp only); first | decide | omega))))
local macro_rules | `(tactic| walk_at "ev") => `(tactic| first
  | with_reducible assumption
  | ((with_reducible refine' ev_var ?e0); (case e0 => exact rfl))
  | with_reducible exact ev_c
  | ((with_reducible refine' ev_op ?e1 ?e2 ?e3); (case e1 => walk_at "ev"); (case e2 => walk_at "ev"); (case e3 => walk_at "rv"))
  | ((with_reducible refine' ev_un ?e1 ru_neg); (case e1 => walk_at "ev"))
  | ((with_reducible refine' ev_call ?ca ?cb); (case ca => walk_at "ea"); (case cb => walk_at "gsp"))
  | ((with_reducible refine' ev_chain ?e1 ?e2 ?e3 ?e4 ?e5); (case e1 => walk_at "ev"); (case e2 => walk_at "ev"); (case e3 => walk_at "rv"); (case e4 => walk_at "ev"); (case e5 => walk_at "rv"))
  | ((with_reducible refine' ev_notV ?e1); (case e1 => walk_at "ev"))
  | fail "ev")
local macro_rules | `(tactic| walk_at "et") => `(tactic| first
  | with_reducible assumption
  | ((with_reducible refine' et_test ?e1); (case e1 => walk_at "ev"))
  | ((with_reducible refine' et_B ?e1); (case e1 => walk_at "ev"))
  | ((with_reducible refine' et_and ?e1 (fun hqq => ?e2)); (case e1 => walk_at "et"); (case e2 => walk_at "et"))
  | ((with_reducible refine' et_or ?e1 (fun hqq => ?e2)); (case e1 => walk_at "et"); (case e2 => walk_at "et"))
  | ((with_reducible refine' et_not ?e1); (case e1 => walk_at "et"))
  | fail "et")
local macro_rules | `(tactic| walk_at "nx") => `(tactic| ((try dsimp only); refine nx_of ?_))
local macro_rules | `(tactic| walk_at "xset") => `(tactic| (refine' x_set ?xe ?xk; (case xe => walk_at "ev")))
local macro_rules | `(tactic| walk_at "xasg") => `(tactic| (refine' x_asg ?xe ?xk; (case xe => walk_at "ev")))
local macro_rules | `(tactic| walk_at "xret") => `(tactic| (refine' x_ret ?xe ?xk; (case xe => walk_at "ev")))
local macro_rules | `(tactic| walk_at "xwhen") => `(tactic| (refine' x_when ?xe ?xk ?xl; (case xe => walk_at "et")))
local macro_rules | `(tactic| walk_at "xif") => `(tactic| (refine' x_if ?xe ?xk ?xl; (case xe => walk_at "et")))
local macro_rules | `(tactic| walk_at "xif2") => `(tactic| (refine' x_if2 ?xe ?xk ?xl; (case xe => walk_at "et")))
variable {c : Cn}
theorem pure_call_with (Z : Zs c) (vs : List V) (H : Hp) (Q : VK) (E : XK) (h : sp_call_with c vs H Q E) : t_call_with c (sp_legal_calls c) (sp_position_behind c) (sp_ways_of c) { nx := fun _ H' => Q .non H', rt := Q } (start ["position", "sums", "number", "before", "call", "ways"] vs) H := by
  obtain ⟨a, b, q, n, x, rfl, P, hs, v, hf, k⟩ := h
  refine q_asg ev_c fun H1 e1 => ?_
  refine q_forNLn (xs := nV (legalP q)) (el_call (ea_cons (ev_var rfl) ea_nil) (sl_legal_calls (P.mono e1) v)) (fun p i σ' H' => ∃ (bf : Nat) (y1 y2 : Option V), σ' = [some (.ref a), some (.ref b), some (.int (n : Nat)), some (.int (bf : Nat)), y1, y2] ∧ Ex H H' ∧ H' p = some (.lst (nV (legalP q))) ∧ findCall q n bf ((legalP q).drop i) = some x) (fun p H2 hp e2 h2 => ⟨0, none, none, rfl, e1.trans e2, h2, hf⟩) (fun p i σ' H' _ ⟨_, _, _, _, _, h2, _⟩ => SqL.of h2) ?_ ?_
  · rintro p i w σ' H' hw ⟨bf, y1, y2, rfl, e, hl, hfi⟩
    obtain ⟨cc, hc, rfl⟩ := nV_inv hw
    have hmem := List.mem_of_getElem? hc
    have hc37 := legalP_le hmem v.b0 v.b1
    rw [List.drop_eq_getElem_cons (List.getElem?_eq_some_iff.mp hc).1, (List.getElem?_eq_some_iff.mp hc).2] at hfi
    unfold findCall at hfi
    refine q_asg (ev_waysQ (sq_position_behind (ea_cons (ev_var rfl) (ea_cons (ev_var rfl) ea_nil)) (P.mono e)) (ev_var rfl) (ex_l e hs) (v.behind hc37)) fun H2 e2 => ?_
    refine q_when (b := decide (n < bf + waysP (behindP q cc))) (et_is (et_test (ev_op (ev_var rfl) (ev_op (ev_var rfl) (ev_var rfl) rv_I0) rv_I0)) (by rw [Bool.eq_iff_iff]; simp; omega)) (fun hb H3 e3 => ?_) (fun hb H3 e3 => ?_)
    · rw [if_pos (of_decide_eq_true hb)] at hfi
      have ex : x = (cc, bf) := (Option.some.inj hfi).symm
      refine s_retU (eu_tup (vs := [.int (cc : Nat), .int (bf : Nat)]) (ea_cons (ev_var rfl) (ea_cons (ev_var rfl) ea_nil)) (by show (2 : Nat) ≤ 100000; decide)) fun p2 H4 _ e4 h4 => k p2 H4 (((e.trans e2).trans e3).trans e4) ?_
      rw [ex]
      exact h4
    · rw [if_neg (of_decide_eq_false hb)] at hfi
      exact s_asg (v := .int (bf + waysP (behindP q cc) : Nat)) (ev_is (ev_op (ev_var rfl) (ev_var rfl) rv_I0) (by simp)) fun H4 e4 => ⟨_, _, _, rfl, ((e.trans e2).trans e3).trans e4, e4 _ _ (e3 _ _ (e2 _ _ hl)), hfi⟩
  · rintro p σ' H' ⟨bf, y1, y2, rfl, e, hl, hfi⟩
    rw [nV_len, List.drop_eq_nil_of_le (Nat.le_refl _)] at hfi
    cases hfi
theorem pure_number_of (Z : Zs c) (vs : List V) (H : Hp) (Q : VK) (E : XK) (h : sp_number_of c vs H Q E) : t_number_of c (sp_first_position c) (sp_is_at_end c) (sp_legal_calls c) (sp_position_behind c) sp_ways_from_bids (sp_ways_of c) { nx := fun _ H' => Q .non H', rt := Q } (start ["dealer", "made", "sums", "position", "number", "place", "pair", "seat", "call", "smaller"] vs) H := by
  obtain ⟨z, ⟨dl, a, m, rfl, hM, hml, rfl⟩, k⟩ := h
  refine q_asgL (el_call ea_nil sl_ways_from_bids) fun sm H1 _ e1 hsm => ?_
  refine q_setQ sq_first_position fun p0 H2 _ e2 P0 => ?_
  refine q_asg (v := .int (0 : Nat)) ev_c fun H3 e3 => ?_
  obtain ⟨mv, hv, hmv⟩ := hM
  have e123 := (e1.trans e2).trans e3
  show tFor (iEnum c.K (tCons (tVar 1) tNil)) _ _ _ [some (V.int (dl : Nat)), some (.ref a), some (.ref sm), some (.ref p0), some (.int ((0 : Nat) : Int)), none, none, none, none, none] H3
  refine ⟨_, rfl, a, mv, rfl, SqL.of (e123 _ _ hv), ?_⟩
  refine ⟨fun i mm σ' H' => mm = m.length - i ∧ i ≤ m.length ∧ ∃ (q : Pz) (p : Addr) (n : Nat) (y1 y2 y3 y4 y5 : Option V), σ' = [some (V.int (dl : Nat)), some (.ref a), some (.ref sm), some (.ref p), some (.int (n : Nat)), y1, y2, y3, y4, y5] ∧ Ex H H' ∧ H' sm = some (.lst (nV sums)) ∧ PosAt c H' p q ∧ Vp q ∧ numGo dl 0 first 0 m = numGo dl i q n (m.drop i),
    ⟨_, rfl, Nat.zero_le _, first, p0, 0, none, none, none, none, none, rfl, e123, e3 _ _ (e2 _ _ hsm), P0.mono e3, Vp.first, rfl⟩, ?_⟩
  rintro i mm σ' H' ⟨rfl, hi, q, p, n, y1, y2, y3, y4, y5, rfl, e, hsm', P, v, hg⟩
  by_cases hlt : i < m.length
  · obtain ⟨pr, hp1, hp2⟩ := hmv.2 i m[i] (List.getElem?_eq_getElem hlt)
    rw [List.drop_eq_getElem_cons hlt] at hg
    rcases hmi : m[i] with ⟨s, cc⟩
    rw [hmi] at hg hp2
    refine .inr ⟨⟨mv, .ref pr, SqL.of (e _ _ hv), hp1⟩, fun σ2 H2 => ∃ (q : Pz) (p : Addr) (n : Nat) (y1 y2 y3 y4 y5 : Option V), σ2 = [some (V.int (dl : Nat)), some (.ref a), some (.ref sm), some (.ref p), some (.int (n : Nat)), y1, y2, y3, y4, y5] ∧ Ex H H2 ∧ H2 sm = some (.lst (nV sums)) ∧ PosAt c H2 p q ∧ Vp q ∧ numGo dl 0 first 0 m = numGo dl (i + 1) q n (m.drop (i + 1)), fun σ2 H2 hn => ⟨m.length - (i + 1), by omega, rfl, hlt, hn⟩, ?_⟩
    rintro y H'' ⟨T, x, rfl, hT, rfl, hx⟩
    have ex := hx mv (SqL.of (e _ _ hv))
    rw [hp1] at ex
    obtain rfl := Option.some.inj ex
    have eT : Ex H' (upd H' T (.tup [.int (i : Nat), .ref pr])) := Ex.new hT
    refine ⟨T, _, rfl, SqT.of upd_same, rfl, _, _, rfl, _, _, rfl, rfl, ?_⟩
    generalize upd H' T (.tup [.int (i : Nat), .ref pr]) = H4 at eT
    have e4 := e.trans eT
    have P4 := P.mono eT
    -- seat, call = pair
    refine q_asgG (v := .ref pr) (ev_var rfl) fun H5 e5 => ?_
    refine ⟨pr, _, rfl, SqT.of (e5 _ _ (e4 _ _ hp2)), rfl, _, _, rfl, _, _, rfl, rfl, ?_⟩
    have e45 := e4.trans e5
    have P5 := P4.mono e5
    show tSeq _ _ _ [some (V.int (dl : Nat)), some (.ref a), some (.ref sm), some (.ref p), some (.int (n : Nat)), some (.int (i : Nat)), some (.ref pr), some (.int (s : Nat)), some (.int (cc : Nat)), y5] H5
    have eL : EvL (tCall (sp_legal_calls c) [] E0 (tCons (tVar 3) tNil)) [some (V.int (dl : Nat)), some (.ref a), some (.ref sm), some (.ref p), some (.int (n : Nat)), some (.int (i : Nat)), some (.ref pr), some (.int (s : Nat)), some (.int (cc : Nat)), y5] H5 (nV (legalP q)) := el_call (ea_cons (ev_var rfl) ea_nil) (sl_legal_calls P5 v)
    refine q_when (b := decide (¬ (s = (dl + i) % 4 ∧ atEnd q = false ∧ cc ∈ legalP q))) (et_is (et_or (a := !decide (V.int (s : Nat) = V.int (((dl : Nat) + (i : Nat) : Int) % 4))) (et_test (ev_op (ev_var rfl) (ev_op (ev_op (ev_var rfl) (ev_var rfl) rv_I0) ev_c (rv_I (by decide))) (rv_ne rfl))) fun _ => et_or (et_B (ev_call (ea_cons (ev_var rfl) ea_nil) (sv_is_at_end P5))) fun _ => et_test (ev_opL (x := .int (cc : Nat)) (ev_var rfl) eL fun p2 H6 hp2 e6 => rv_niL (SqL.of hp2) rfl (flat_nV _))) ?_) (fun hb H6 e6 => ?_) (fun hb H6 e6 => ?_)
    · rw [inV_nV, Bool.eq_iff_iff]
      have e1 : (((dl : Nat) + (i : Nat) : Int) % 4) = (((dl + i) % 4 : Nat) : Int) := by omega
      rw [e1]
      simp
      constructor
      · rintro (z | z | z)
        · exact .inl (by omega)
        · exact .inr (.inl z)
        · exact .inr (.inr z)
      · rintro (z | z | z)
        · exact .inl (by omega)
        · exact .inr (.inl z)
        · exact .inr (.inr z)
    · have hb := of_decide_eq_true hb
      rw [numGo_cons] at hg
      rw [if_neg hb] at hg
      rw [hg] at k
      exact s_ret ev_c fun H7 e7 => k H7 ((e45.trans e6).trans e7)
    have hb : s = (dl + i) % 4 ∧ atEnd q = false ∧ cc ∈ legalP q := by
      have := of_decide_eq_false hb
      exact Classical.not_not.mp this
    rw [numGo_cons] at hg
    rw [if_pos hb] at hg
    have hsm5 := e6 _ _ (e5 _ _ (eT _ _ hsm'))
    have e46 := e45.trans e6
    refine q_forNLn (xs := nV (legalP q)) (eL.mono e6) (fun p2 j σ2 H2 => ∃ y, σ2 = [some (V.int (dl : Nat)), some (.ref a), some (.ref sm), some (.ref p), some (.int (n + sumBelow q cc ((legalP q).take j) : Nat)), some (.int (i : Nat)), some (.ref pr), some (.int (s : Nat)), some (.int (cc : Nat)), y] ∧ Ex H6 H2 ∧ H2 p2 = some (.lst (nV (legalP q)))) (fun p2 H7 _ e7 h7 => ⟨y5, rfl, e7, h7⟩) (fun p2 j σ2 H2 _ ⟨_, _, _, h2⟩ => SqL.of h2) ?_ ?_
    · rintro p2 j w σ2 H2 hw ⟨y, rfl, e7, h7⟩
      obtain ⟨sc, hc, rfl⟩ := nV_inv hw
      have et : (legalP q).take (j + 1) = (legalP q).take j ++ [sc] := by
        rw [List.take_add_one, hc]
        rfl
      have es := sumBelow_snoc q cc sc ((legalP q).take j)
      rw [← et] at es
      have hc37 := legalP_le (List.mem_of_getElem? hc) v.b0 v.b1
      refine s_ifAsg (b := decide (sc < cc)) (v := .int (n + sumBelow q cc ((legalP q).take (j + 1)) : Nat)) (et_is (et_test (ev_op (ev_var rfl) (ev_var rfl) rv_I0)) (by rw [Bool.eq_iff_iff]; simp)) (fun hb3 => ?_) (fun hb3 => ?_) fun H8 e8 => ⟨_, rfl, e7.trans e8, e8 _ _ h7⟩
      · rw [es, if_pos (of_decide_eq_true hb3)]
        exact ev_is (ev_op (ev_var rfl) (ev_waysQ (sq_position_behind (ea_cons (ev_var rfl) (ea_cons (ev_var rfl) ea_nil)) (P5.mono (e6.trans e7))) (ev_var rfl) (SqL.of (e7 _ _ hsm5)) (v.behind hc37)) rv_I0) (congrArg V.int (by simp; omega))
      · rw [es, if_neg (of_decide_eq_false hb3)]
        rfl
    · rintro p2 σ2 H2 ⟨y, rfl, e7, h7⟩
      rw [nV_len, List.take_length]
      refine s_setQ (sq_position_behind (ea_cons (ev_var rfl) (ea_cons (ev_var rfl) ea_nil)) (P5.mono (e6.trans e7))) fun p3 H8 _ e8 P8 => ?_
      exact ⟨behindP q cc, p3, _, _, _, _, _, _, rfl, (e46.trans e7).trans e8, e8 _ _ (e7 _ _ hsm5), P8, v.behind (legalP_le hb.2.2 v.b0 v.b1), hg⟩
  · have ei : i = m.length := by omega
    subst ei
    rw [List.drop_eq_nil_of_le (Nat.le_refl _)] at hg
    refine .inl ⟨⟨mv, SqL.of (e _ _ hv), by rw [hmv.1]; exact Nat.le_refl _⟩, ?_⟩
    rw [hg] at k
    exact s_ret (ev_var rfl) fun H5 e5 => k H5 (e.trans e5)
/-- a call whose answer is taken apart -/
theorem q_asgC {sp : Sp} {g : TG} {ta : TA} {tz : TS} {D : Ends} {σ : L2.St} {H : Hp} {vs : List V} (h : EvA ta σ H vs) (k : ∀ H1, Ex H H1 → ∀ E, sp (vs ++ []) H1 (fun v H2 => g v σ H2 (tz D)) E) : tSeq (tAsg (tCall sp [] E0 ta) g) tz D σ H := h H (Ex.refl H) _ fun H1 e => k H1 e _
def sp_auction_with_number : Sp := fun vs H Q _ => ∃ n : Nat, vs = [.int (n : Nat)] ∧ ((waysP first ≤ n ∧ RetV .non H Q) ∨ (n < waysP first ∧ RetL (nV (walkP 320 first n)) H Q))
theorem mu_first : mu first = 319 := by decide +kernel
theorem pure_auction_with_number (Z : Zs c) (vs : List V) (H : Hp) (Q : VK) (E : XK) (h : sp_auction_with_number vs H Q E) : t_auction_with_number c (sp_call_with c) (sp_first_position c) (sp_is_at_end c) (sp_position_behind c) sp_ways_from_bids (sp_ways_of c) { nx := fun _ H' => Q .non H', rt := Q } (start ["number", "sums", "position", "calls", "left", "call", "before"] vs) H := by
  obtain ⟨n, rfl, k⟩ := h
  refine q_asgL (el_call ea_nil sl_ways_from_bids) fun sm H1 _ e1 hsm => ?_
  refine q_setQ sq_first_position fun p0 H2 _ e2 P0 => ?_
  refine q_when (b := decide (waysP first ≤ n)) (et_is (et_test (ev_op (ev_var rfl) (ev_call (ea_cons (ev_var rfl) (ea_cons (ev_var rfl) ea_nil)) (sv_ways_of P0 (SqL.of (e2 _ _ hsm)) Vp.first)) rv_I0)) (by rw [Bool.eq_iff_iff]; simp)) (fun hb H3 e3 => ?_) (fun hb H3 e3 => ?_)
  · rcases k with ⟨_, k⟩ | ⟨q, _⟩
    · exact s_ret ev_c fun H4 e4 => k H4 (((e1.trans e2).trans e3).trans e4)
    · have := of_decide_eq_true hb
      omega
  have hlt := of_decide_eq_false hb
  replace k : RetL (nV (walkP 320 first n)) H Q := by
    rcases k with ⟨q, _⟩ | ⟨_, k⟩
    · exact absurd q hlt
    · exact k
  refine q_asgL (xs := []) (el_lst ea_nil (by decide)) fun l H4 hl e4 h4 => ?_
  refine q_asg (v := .int (n : Nat)) (ev_var rfl) fun H5 e5 => ?_
  have e14 := ((e1.trans e2).trans e3).trans e4
  have hl0 : H l = none := fresh_back ((e1.trans e2).trans e3) hl
  have hl3 : H3 l = none := hl
  show tSeq (tWhile _ _) _ _ [some (V.int (n : Nat)), some (.ref sm), some (.ref p0), some (.ref l), some (.int (n : Nat)), none, none] H5
  refine q_while (fun m σ' H' => ∃ (q : Pz) (p : Addr) (left i : Nat) (done : List Nat) (y5 y6 : Option V), σ' = [some (V.int (n : Nat)), some (.ref sm), some (.ref p), some (.ref l), some (.int (left : Nat)), y5, y6] ∧ m = mu q ∧ Ex H3 H' ∧ H' l = some (.lst (nV done)) ∧ PosAt c H' p q ∧ p ≠ l ∧ Vp q ∧ left < waysP q ∧ mu q < i ∧ done.length + i ≤ 320 ∧ done ++ walkP i q left = walkP 320 first n) (mu first)
    ⟨first, p0, n, 320, [], none, none, rfl, rfl, e4.trans e5, e5 _ _ h4, ((P0.mono e3).mono e4).mono e5, ?_, Vp.first, by omega, by rw [mu_first]; omega, Nat.le_refl _, rfl⟩ ?_
  · obtain ⟨dx, hd⟩ := P0.mono e3
    exact ne_of_none hd hl
  rintro m σ' H' ⟨q, p, left, i, done, y5, y6, rfl, rfl, e, h1, P, np, v, hw, hm, hdl, hwk⟩
  have hsm' : H' sm = some (.lst (nV sums)) := e _ _ (e3 _ _ (e2 _ _ hsm))
  refine ⟨!atEnd q, et_not (et_B (ev_call (ea_cons (ev_var rfl) ea_nil) (sv_is_at_end P))), fun hb2 H6 e6 => ?_, fun hb2 H6 e6 => ?_⟩
  · have he : atEnd q = false := by simpa using hb2
    obtain ⟨x, hx, hxm, hxn, hxw⟩ := find_legal v.b0 v.b1 v.d2 he hw
    cases i with
    | zero => omega
    | succ i =>
    have hwk2 : walkP (i + 1) q left = x.1 :: walkP i (behindP q x.1) (left - x.2) := by
      show (if atEnd q = true then [] else match findCall q left 0 (legalP q) with
        | none => []
        | some x => x.1 :: walkP i (behindP q x.1) (left - x.2)) = _
      rw [if_neg (by rw [he]; exact Bool.false_ne_true), hx]
    have hmu := mu_less hxm v.b0 v.b1 he
    have hx37 := legalP_le hxm v.b0 v.b1
    refine ⟨fun σ2 H2 => ∃ (q2 : Pz) (p : Addr) (left i : Nat) (done : List Nat) (y5 y6 : Option V), σ2 = [some (V.int (n : Nat)), some (.ref sm), some (.ref p), some (.ref l), some (.int (left : Nat)), y5, y6] ∧ mu q2 < mu q ∧ Ex H3 H2 ∧ H2 l = some (.lst (nV done)) ∧ PosAt c H2 p q2 ∧ p ≠ l ∧ Vp q2 ∧ left < waysP q2 ∧ mu q2 < i ∧ done.length + i ≤ 320 ∧ done ++ walkP i q2 left = walkP 320 first n,
      fun σ2 H2 ⟨q2, p, left, i, done, y5, y6, r1, r2, r⟩ => ⟨mu q2, r2, q2, p, left, i, done, y5, y6, r1, rfl, r⟩, ?_⟩
    have P6 := P.mono e6
    -- call, before = call_with(position, sums, left)
    have ea : EvA (tCons (tVar 2) (tCons (tVar 1) (tCons (tVar 4) tNil))) [some (V.int (n : Nat)), some (.ref sm), some (.ref p), some (.ref l), some (.int (left : Nat)), y5, y6] H6 [.ref p, .ref sm, .int (left : Nat)] := ea_cons (ev_var rfl) (ea_cons (ev_var rfl) (ea_cons (ev_var rfl) ea_nil))
    refine q_asgC ea fun H7 e7 E7 => ?_
    refine ⟨p, sm, q, left, x, rfl, P6.mono e7, SqL.of (e7 _ _ (e6 _ _ hsm')), v, hx, fun pr H8 e8 h8 => ?_⟩
    refine ⟨pr, _, rfl, SqT.of h8, rfl, _, _, rfl, _, _, rfl, rfl, ?_⟩
    show tSeq _ _ _ [some (V.int (n : Nat)), some (.ref sm), some (.ref p), some (.ref l), some (.int (left : Nat)), some (.int (x.1 : Nat)), some (.int (x.2 : Nat))] H8
    have e68 := (e6.trans e7).trans e8
    refine q_asg (v := .int (left - x.2 : Nat)) (ev_is (ev_op (ev_var rfl) (ev_var rfl) rv_I0) (by congr 1; omega)) fun H9 e9 => ?_
    have h9 : H9 l = some (.lst (nV done)) := e9 _ _ (e68 _ _ h1)
    refine q_app h9 (ev_var rfl) (ev_var rfl) (by rw [nV_len]; omega) fun H10 e10 => ?_
    have enew : nV done ++ [V.int (x.1 : Nat)] = nV (done ++ [x.1]) := by rw [nV_append]; rfl
    rw [enew]
    have P10 : PosAt c (upd H10 l (.lst (nV (done ++ [x.1])))) p q := by
      obtain ⟨dx, hd⟩ := P.mono ((e68.trans e9).trans e10)
      exact ⟨dx, by rw [upd_ne np]; exact hd⟩
    refine s_setQ (sq_position_behind (ea_cons (ev_var rfl) (ea_cons (ev_var rfl) ea_nil)) P10) fun p2 H11 hp2 e11 P11 => ?_
    refine ⟨behindP q x.1, p2, left - x.2, i, done ++ [x.1], _, _, rfl, hmu, (((e.trans ((e68.trans e9).trans e10)).mut hl3).trans e11), e11 _ _ upd_same, P11, ?_, v.behind hx37, hxw, by omega, by rw [List.length_append]; show done.length + 1 + i ≤ 320; omega, ?_⟩
    · intro z
      rw [z, upd_same] at hp2
      cases hp2
    · rw [← hwk, hwk2, List.append_assoc]
      rfl
  · have he : atEnd q = true := by simpa using hb2
    have hwk2 : walkP i q left = [] := by
      cases i with
      | zero => omega
      | succ i =>
        show (if atEnd q = true then [] else _) = _
        rw [if_pos he]
    rw [hwk2, List.append_nil] at hwk
    refine s_ret (ev_var rfl) fun H7 e7 => k l H7 hl0 ((((e1.trans e2).trans e3).trans (e.trans e6)).trans e7) ?_
    rw [← hwk]
    exact e7 _ _ (e6 _ _ h1)
end G
namespace G
open Vbbrac

theorem mem_legalP {dl : Nat} {m : Made} (g : Good m) (ho : over m = false) (c : Nat) : c ∈ legalP (posOf dl m) ↔ legal m (turn dl m) c = true := by
  rw [← legal_pos dl g ho]
  unfold legals
  rw [List.mem_filter, List.mem_range]
  constructor
  · exact fun h => h.2
  · intro h
    refine ⟨?_, h⟩
    unfold legal at h
    by_cases h0 : c = 0
    · omega
    · by_cases h1 : c = 1
      · omega
      · by_cases h2 : c = 2
        · omega
        · rw [if_neg h0, if_neg h1, if_neg h2] at h
          simp at h
          omega
/-- made turn by turn, each call legal -/
structure Leg (dl : Nat) (m : Made) : Prop where
  good : Good m
  trn : turn dl m = (dl + m.length) % 4
  len : m.length + mu (posOf dl m) ≤ 319
  each : ∀ i x, m[i]? = some x → x.1 = turn dl (m.take i) ∧ legal (m.take i) x.1 x.2 = true
theorem mu_first_eq : mu first = 319 := by decide +kernel
theorem Leg.nil {dl : Nat} (hd : dl ≤ 3) : Leg dl [] := by
  refine ⟨Good.nil, ?_, ?_, fun i x h => by cases h⟩
  · show dl = (dl + 0) % 4
    omega
  · show 0 + mu first ≤ 319
    rw [mu_first_eq]
    omega
theorem over_of_legal {m : Made} {s c : Nat} (h : legal m s c = true) : over m = false := by
  unfold legal at h
  cases q : over m with
  | false => rfl
  | true =>
    rw [q] at h
    cases h
theorem Leg.snoc {dl : Nat} (hd : dl ≤ 3) {m : Made} (L : Leg dl m) {c : Nat} (h : legal m (turn dl m) c = true) : Leg dl (m ++ [(turn dl m, c)]) := by
  have ho := over_of_legal h
  have hl := L.good.lastI
  refine ⟨(legal_good hd L.good h).1, ?_, ?_, fun i x hx => ?_⟩
  · rw [turn_append, L.trn, List.length_append]
    show _ = (dl + (m.length + 1)) % 4
    omega
  · rw [← behind_pos dl L.good c, List.length_append]
    have := mu_less ((mem_legalP L.good ho c).mpr h) hl.1 hl.2 (by rw [atEnd_posOf]; exact ho)
    have q := L.len
    show m.length + 1 + _ ≤ 319
    omega
  · by_cases hi : i < m.length
    · rw [List.getElem?_append_left hi] at hx
      rw [List.take_append_of_le_length (by omega)]
      exact L.each i x hx
    · rw [List.getElem?_append_right (by omega)] at hx
      have e0 : i - m.length = 0 := by
        cases q : i - m.length with
        | zero => rfl
        | succ n => rw [q] at hx; simp at hx
      rw [e0] at hx
      have ei : i = m.length := by omega
      have ex : x = (turn dl m, c) := by
        simp at hx
        exact hx.symm
      subst ei
      rw [ex, List.take_left]
      exact ⟨rfl, h⟩
theorem readWords_leg {dl : Nat} (hd : dl ≤ 3) : ∀ (ws : List Bytes) (m : Made) (p : Nat) (m' : Made), Leg dl m → readWords dl m p ws = .ok m' → Leg dl m' ∧ ∃ t, m' = m ++ t
  | [], m, p, m', L, h => by
    cases h
    exact ⟨L, [], by simp⟩
  | w :: r, m, p, m', L, h => by
    unfold readWords at h
    cases hc : callOfText w with
    | none =>
      rw [hc] at h
      cases h
    | some c =>
      rw [hc] at h
      dsimp only at h
      by_cases h1 : over m = true
      · rw [if_pos h1] at h
        cases h
      · rw [if_neg h1] at h
        by_cases h2 : legal m (turn dl m) c = false
        · rw [if_pos h2] at h
          cases h
        · rw [if_neg h2] at h
          have h3 : legal m (turn dl m) c = true := by
            cases q : legal m (turn dl m) c with
            | true => rfl
            | false => exact absurd q h2
          obtain ⟨L', t, e⟩ := readWords_leg hd r _ _ m' (L.snoc hd h3) h
          exact ⟨L', (turn dl m, c) :: t, by rw [e, List.append_assoc]; rfl⟩
theorem readText_leg {dl : Nat} (hd : dl ≤ 3) {t : Bytes} {m : Made} (h : readText dl t = .ok m) : Leg dl m := by
  unfold readText at h
  by_cases q : t.isEmpty = true
  · rw [if_pos q] at h
    cases h
    exact Leg.nil hd
  · rw [if_neg q] at h
    exact (readWords_leg hd _ _ _ _ (Leg.nil hd) h).1

/-! ### the number of an auction -/
/-- what the specification says of the number -/
def numS (dl : Nat) (pre : Made) (p n : Nat) (r : Made) : Option Nat := match readWords dl pre p (r.map fun x => callText x.2) with
  | .error _ => none
  | .ok m => if m = pre ++ r then some (n + rankFrom dl pre (r.map fun x => x.2)) else none
theorem sum_pos {dl : Nat} (hd : dl ≤ 3) {m : Made} (g : Good m) (ho : over m = false) (c : Nat) :
    sumBelow (posOf dl m) c (legalP (posOf dl m)) = (((legals m (turn dl m)).filter fun x => decide (x < c)).map fun x => ways dl (m ++ [(turn dl m, x)])).foldl (fun a b => a + b) 0 := by
  unfold sumBelow
  rw [legal_pos dl g ho]
  congr 1
  refine List.map_congr_left fun x hx => ?_
  have hx2 := (List.mem_filter.mp hx).1
  rw [behind_pos dl g, ways_pos dl (legal_good hd g ((mem_legalP g ho x).mp hx2)).1]
theorem num_link {dl : Nat} (hd : dl ≤ 3) : ∀ (r : Made) (pre : Made) (p n : Nat), Leg dl pre → (∀ x ∈ r, x.2 ≤ 37) → numGo dl pre.length (posOf dl pre) n r = numS dl pre p n r
  | [], pre, p, n, L, _ => by
    unfold numS
    show some n = if pre = pre ++ [] then some (n + 0) else none
    rw [List.append_nil, if_pos rfl]
    rfl
  | (s, c) :: r, pre, p, n, L, hr => by
    have hc : c ≤ 37 := hr (s, c) List.mem_cons_self
    rw [numGo_cons, atEnd_posOf]
    unfold numS
    rw [List.map_cons, List.map_cons]
    show _ = match readWords dl pre p (callText c :: _) with
      | .error _ => none
      | .ok m => if m = pre ++ (s, c) :: r then some (n + rankFrom dl pre (c :: List.map (fun (x : Nat × Nat) => x.2) r)) else none
    unfold readWords
    rw [callOf_text c (by omega)]
    dsimp only
    by_cases ho : over pre = true
    · rw [if_pos ho, if_neg (fun z => by rw [z.2.1] at ho; cases ho)]
    · have ho' : over pre = false := by simpa using ho
      rw [if_neg ho]
      by_cases hl : legal pre (turn dl pre) c = true
      · rw [if_neg (show ¬ legal pre (turn dl pre) c = false by rw [hl]; simp)]
        have hm := (mem_legalP (dl := dl) L.good ho' c).mpr hl
        by_cases hs : s = (dl + pre.length) % 4
        · rw [if_pos (show s = (dl + pre.length) % 4 ∧ over pre = false ∧ c ∈ legalP (posOf dl pre) from ⟨hs, ho', hm⟩), behind_pos dl L.good c, sum_pos hd L.good ho']
          have es : s = turn dl pre := by rw [L.trn]; exact hs
          have L2 := L.snoc hd hl
          have ih := num_link hd r (pre ++ [(turn dl pre, c)]) (p + (callText c).length + 1) (n + (((legals pre (turn dl pre)).filter fun x => decide (x < c)).map fun x => ways dl (pre ++ [(turn dl pre, x)])).foldl (fun a b => a + b) 0) L2 fun x hx => hr x (List.mem_cons_of_mem _ hx)
          rw [List.length_append] at ih
          have ih2 : numGo dl (pre.length + 1) _ _ r = _ := ih
          rw [ih2]
          unfold numS
          have er : ∀ l, rankFrom dl pre (c :: l) = (((legals pre (turn dl pre)).filter fun x => decide (x < c)).map fun x => ways dl (pre ++ [(turn dl pre, x)])).foldl (fun a b => a + b) 0 + rankFrom dl (pre ++ [(turn dl pre, c)]) l := fun l => rfl
          rw [er, List.append_assoc, es]
          cases readWords dl (pre ++ [(turn dl pre, c)]) (p + (callText c).length + 1) (List.map (fun x => callText x.2) r) with
          | error e => rfl
          | ok m =>
            show (if m = pre ++ ([(turn dl pre, c)] ++ r) then _ else _) = (if m = pre ++ (turn dl pre, c) :: r then _ else _)
            rw [← Nat.add_assoc]
            rfl
        · rw [if_neg (show ¬ (s = (dl + pre.length) % 4 ∧ over pre = false ∧ c ∈ legalP (posOf dl pre)) from fun z => hs z.1)]
          cases q : readWords dl (pre ++ [(turn dl pre, c)]) (p + (callText c).length + 1) (List.map (fun x => callText x.2) r) with
          | error e => rfl
          | ok m =>
            obtain ⟨_, t, e⟩ := readWords_leg hd _ _ _ _ (L.snoc hd hl) q
            show none = if m = pre ++ (s, c) :: r then _ else none
            rw [if_neg]
            intro z
            rw [e, List.append_assoc] at z
            have z2 := List.append_cancel_left z
            have z3 : (turn dl pre, c) = (s, c) := (List.cons.inj z2).1
            have z4 : turn dl pre = s := congrArg Prod.fst z3
            rw [L.trn] at z4
            exact hs z4.symm
      · have hl' : legal pre (turn dl pre) c = false := by simpa using hl
        rw [if_pos hl', if_neg (show ¬ (s = (dl + pre.length) % 4 ∧ over pre = false ∧ c ∈ legalP (posOf dl pre)) from fun z => hl ((mem_legalP L.good ho' c).mp z.2.2))]
theorem number_link {dl : Nat} (hd : dl ≤ 3) {m : Made} (g : Good m) : numGo dl 0 first 0 m = match readText dl (textOf m) with
    | .error _ => none
    | .ok m' => if m' = m then some (rankFrom dl [] (m.map fun x => x.2)) else none := by
  have h := num_link hd m [] 0 0 (Leg.nil hd) fun x hx => (g.le x hx).2
  have h2 : numGo dl 0 first 0 m = numS dl [] 0 0 m := h
  rw [h2]
  unfold numS readText textOf
  cases m with
  | nil => rfl
  | cons x r =>
    have hne : joined (List.map (fun x => callText x.2) (x :: r)) ≠ [] := fun z => by
      have := joined_nil (fun w hw => ?_) z
      · cases this
      · obtain ⟨y, _, rfl⟩ := List.mem_map.mp hw
        have := (callText_len y.2).1
        intro e
        rw [e] at this
        cases this
    rw [if_neg (by rw [List.isEmpty_iff]; exact hne), cut_joined _ (by simp) fun w hw => by
      obtain ⟨y, hy, rfl⟩ := List.mem_map.mp hw
      exact callText_noblank _ (by have := (g.le y hy).2; omega)]
    rw [Nat.zero_add]
    rfl

/-! ### the auction with a number -/
theorem find_pick {dl : Nat} (hd : dl ≤ 3) {m : Made} (g : Good m) (ho : over m = false) (n : Nat) : ∀ (l : List Nat) (b : Nat), (∀ x ∈ l, x ∈ legalP (posOf dl m)) → b ≤ n →
    pick dl m (turn dl m) l (n - b) = (findCall (posOf dl m) n b l).map fun x => (x.1, n - x.2)
  | [], b, _, _ => rfl
  | c :: r, b, hl, hb => by
    have hc := hl c List.mem_cons_self
    have hw : waysP (behindP (posOf dl m) c) = ways dl (m ++ [(turn dl m, c)]) := by
      rw [behind_pos dl g, ways_pos dl (legal_good hd g ((mem_legalP g ho c).mp hc)).1]
    unfold pick findCall
    rw [hw]
    by_cases q : n < b + ways dl (m ++ [(turn dl m, c)])
    · rw [if_pos q, if_pos (by omega)]
      rfl
    · rw [if_neg q, if_neg (by omega)]
      have ih := find_pick hd g ho n r (b + ways dl (m ++ [(turn dl m, c)])) (fun x hx => hl x (List.mem_cons_of_mem _ hx)) (by omega)
      rw [← ih]
      congr 1
      omega
theorem nth_link {dl : Nat} (hd : dl ≤ 3) : ∀ (k : Nat) (m : Made) (n : Nat), Good m → n < waysP (posOf dl m) → (nth dl k m n).map (fun x => x.2) = m.map (fun x => x.2) ++ walkP k (posOf dl m) n
  | 0, m, n, _, _ => by
    show m.map (fun x => x.2) = m.map (fun x => x.2) ++ []
    rw [List.append_nil]
  | k + 1, m, n, g, hn => by
    unfold nth walkP
    rw [atEnd_posOf]
    by_cases ho : over m = true
    · rw [if_pos ho, if_pos ho, List.append_nil]
    · have ho' : over m = false := by simpa using ho
      have hl := g.lastI
      rw [if_neg ho, if_neg ho]
      obtain ⟨x, hx, hxm, hxn, hxw⟩ := find_legal (q := posOf dl m) hl.1 hl.2 (doubled_le m) (by rw [atEnd_posOf]; exact ho') hn
      have hp := find_pick hd g ho' n (legalP (posOf dl m)) 0 (fun x hx => hx) (Nat.zero_le _)
      rw [Nat.sub_zero] at hp
      rw [legal_pos dl g ho', hp, hx]
      show (nth dl k (m ++ [(turn dl m, x.1)]) (n - x.2)).map (fun x => x.2) = _ ++ x.1 :: walkP k (behindP (posOf dl m) x.1) (n - x.2)
      have hleg := (mem_legalP g ho' x.1).mp hxm
      rw [behind_pos dl g] at hxw ⊢
      rw [nth_link hd k _ _ (legal_good hd g hleg).1 hxw, List.map_append, List.append_assoc]
      rfl
theorem biggest : BIGGEST = waysP first := (ways_pos 0 Good.nil).symm
theorem walk_text {dl : Nat} (hd : dl ≤ 3) {n : Nat} (h : n < waysP first) : textOf (nth dl 320 [] n) = joined ((walkP 320 first n).map callText) := by
  unfold textOf
  have e := nth_link hd 320 [] n Good.nil h
  have e2 : (nth dl 320 [] n).map (fun x => callText x.2) = ((nth dl 320 [] n).map fun x => x.2).map callText := by
    rw [List.map_map]
    rfl
  rw [e2, e]
  rfl
theorem walk_le : ∀ (k : Nat) (q : Pz) (n : Nat), -1 ≤ q.bid → q.bid ≤ 34 → (walkP k q n).length ≤ k ∧ ∀ x ∈ walkP k q n, x ≤ 37
  | 0, _, _, _, _ => ⟨Nat.le_refl _, fun x h => by cases h⟩
  | k + 1, q, n, h0, h1 => by
    unfold walkP
    by_cases he : atEnd q = true
    · rw [if_pos he]
      exact ⟨Nat.zero_le _, fun x h => by cases h⟩
    · rw [if_neg he]
      cases hx : findCall q n 0 (legalP q) with
      | none => exact ⟨Nat.zero_le _, fun x h => by cases h⟩
      | some x =>
        have hm : ∀ (l : List Nat) b, findCall q n b l = some x → x.1 ∈ l := by
          intro l
          induction l with
          | nil => intro b h; cases h
          | cons c r ih =>
            intro b h
            unfold findCall at h
            split at h
            · rw [← Option.some.inj h]
              exact List.mem_cons_self
            · exact List.mem_cons_of_mem _ (ih _ h)
        have h37 := legalP_le (hm _ _ hx) h0 h1
        have hb : -1 ≤ (behindP q x.1).bid ∧ (behindP q x.1).bid ≤ 34 := by
          by_cases q0 : x.1 = 0
          · rw [q0]
            exact ⟨h0, h1⟩
          · by_cases q3 : x.1 < 3
            · rw [behindP_dbl q0 q3]
              exact ⟨h0, h1⟩
            · rw [behindP_bid (by omega)]
              exact ⟨by show -1 ≤ (x.1 : Int) - 3; omega, by show (x.1 : Int) - 3 ≤ 34; omega⟩
        obtain ⟨i1, i2⟩ := walk_le k (behindP q x.1) (n - x.2) hb.1 hb.2
        refine ⟨by show (x.1 :: _).length ≤ k + 1; rw [List.length_cons]; omega, fun y hy => ?_⟩
        rcases List.mem_cons.mp hy with r | r
        · rw [r]
          exact h37
        · exact i2 y r
end G
namespace G
open Vbbrac

theorem Good.snoc {m : Made} (g : Good m) {p c : Nat} (hp : p ≤ 3) (hc : c ≤ 37) (h : 0 < c → c < 3 → mayStand m p c = true) : Good (m ++ [(p, c)]) := by
  refine ⟨g.dbl.snoc (fun e => ?_) (fun e => ?_), fun x hx => ?_⟩
  · subst e
    rw [← mayStand_1]
    exact h (by omega) (by omega)
  · subst e
    rw [← mayStand_2]
    exact h (by omega) (by omega)
  · rcases List.mem_append.mp hx with q | q
    · exact g.le x q
    · rw [List.mem_singleton.mp q]
      exact ⟨hp, hc⟩
theorem enough_lastI (m : Made) (b : Nat) : enough m b = decide (lastI m < (b : Int)) := by
  unfold enough lastI
  cases lastBid m with
  | none =>
    show true = decide ((-1 : Int) < (b : Int))
    rw [eq_comm, decide_eq_true_eq]
    omega
  | some x =>
    show decide (x.2 < b) = decide ((x.2 : Int) < (b : Int))
    rw [Bool.eq_iff_iff]
    simp
theorem least_mended {m : Made} (g : Good m) (b : Nat) {c : Nat} (h3 : 3 ≤ c) (h37 : c ≤ 37) : leastOver m (b % 5) = some (c - 3) ↔ (c : Int) - 3 = mendedI m b := by
  have hl := g.lastI
  unfold leastOver mendedI
  rw [List.find?_range_eq_some]
  constructor
  · rintro ⟨h1, _, h2⟩
    rw [enough_lastI] at h1
    simp only [Bool.and_eq_true, beq_iff_eq, decide_eq_true_eq] at h1
    have h4 := h2 (lastI m + 1 + ((b : Int) - (lastI m + 1)) % 5).toNat
    rw [enough_lastI] at h4
    simp only [Bool.not_eq_true', Bool.and_eq_false_iff, beq_eq_false_iff_ne, decide_eq_false_iff_not] at h4
    by_cases q : (lastI m + 1 + ((b : Int) - (lastI m + 1)) % 5).toNat < c - 3
    · rcases h4 q with r | r
      · omega
      · omega
    · omega
  · intro h
    refine ⟨?_, List.mem_range.mpr (by omega), fun j hj => ?_⟩
    · rw [enough_lastI]
      simp only [Bool.and_eq_true, beq_iff_eq, decide_eq_true_eq]
      constructor
      · omega
      · omega
    · rw [enough_lastI]
      simp only [Bool.not_eq_true', Bool.and_eq_false_iff, beq_eq_false_iff_ne, decide_eq_false_iff_not]
      by_cases q : j % 5 = b % 5
      · right
        omega
      · left
        exact q
theorem legal_low {m : Made} (ho : over m = false) {p c : Nat} (h3 : c < 3) (h : 0 < c → mayStand m p c = true) : legal m p c = true := by
  unfold legal
  rw [ho]
  by_cases h0 : c = 0
  · rw [if_pos h0]
    rfl
  · have h := h (by omega)
    by_cases h1 : c = 1
    · rw [if_neg h0, if_pos h1]
      subst h1
      rw [mayStand_1] at h
      rw [h]
      rfl
    · have h2 : c = 2 := by omega
      rw [if_neg h0, if_neg h1, if_pos h2]
      subst h2
      rw [mayStand_2] at h
      rw [h]
      rfl
theorem empty_stand (m : Made) (p c : Nat) : empty_ m p c = decide (0 < c ∧ c < 3 ∧ mayStand m p c = false) := by
  unfold empty_
  by_cases h1 : c = 1
  · subst h1
    rw [mayStand_1]
    cases mayDouble m p <;> rfl
  · by_cases h2 : c = 2
    · subst h2
      rw [mayStand_2]
      cases mayRedouble m p <;> rfl
    · have e1 : (c == 1) = false := by simpa using h1
      have e2 : (c == 2) = false := by simpa using h2
      rw [e1, e2]
      rw [Bool.false_and, Bool.false_and, Bool.or_false, eq_comm, decide_eq_false_iff_not]
      omega
/-- a call -/
theorem does_call {s : State} (g : Good s.made) {p c : Nat} (hc : c ≤ 37) : does s (0, p, c) =
    if over s.made = true then .error (-4) else if s.waits.isSome = true then .error (-5) else if c ≠ 0 ∧ (s.barred.contains p || s.once.contains p) = true then .error (-6)
    else if needed s p c = false then .error (-8) else .ok (makeCall s p c) := by
  show (if over s.made = true then _ else _) = _
  by_cases ho : over s.made = true
  · rw [if_pos ho, if_pos ho]
  rw [if_neg ho, if_neg ho]
  have ho' : over s.made = false := by simpa using ho
  by_cases hw : s.waits.isSome = true
  · rw [if_pos hw, if_pos hw]
  rw [if_neg hw, if_neg hw]
  by_cases hb : c ≠ 0 ∧ (s.barred.contains p || s.once.contains p) = true
  · rw [if_pos (show c ≠ 0 ∧ (s.barred.contains p = true ∨ s.once.contains p = true) from ⟨hb.1, (Bool.or_eq_true _ _).mp hb.2⟩), if_pos hb]
  rw [if_neg (show ¬ (c ≠ 0 ∧ (s.barred.contains p = true ∨ s.once.contains p = true)) from fun z => hb ⟨z.1, (Bool.or_eq_true _ _).mpr z.2⟩), if_neg hb]
  by_cases hn : needed s p c = false
  · rw [if_pos hn]
    unfold needed at hn
    by_cases h1 : s.mend = none ∨ p ≠ turnOf s ∨ c = 0
    · rw [if_pos h1] at hn
      cases hn
    · rw [if_neg h1] at hn
      have hm : s.mend.isSome = true := by
        cases q : s.mend with
        | none => exact absurd (.inl q) h1
        | some x => rfl
      have hp : p = turnOf s := by
        by_cases q : p = turnOf s
        · exact q
        · exact absurd (.inr (.inl q)) h1
      by_cases h2 : c = 1 ∨ c = 2
      · rw [if_pos ⟨hp, hm, h2⟩]
      · rw [if_neg (fun z => h2 z.2.2)]
        have h0 : c ≠ 0 := fun z => h1 (.inr (.inr z))
        have h3 : 3 ≤ c := by omega
        rw [decide_eq_true h3, Bool.true_and] at hn
        rw [if_pos ⟨hp, hm, hn⟩]
  · rw [if_neg hn]
    unfold needed at hn
    have hA : ¬ (p = turnOf s ∧ s.mend.isSome = true ∧ (c = 1 ∨ c = 2)) := by
      rintro ⟨z1, z2, z3⟩
      have h1 : ¬ (s.mend = none ∨ p ≠ turnOf s ∨ c = 0) := by
        rintro (q | q | q)
        · rw [q] at z2
          cases z2
        · exact q z1
        · omega
      rw [if_neg h1] at hn
      have h3 : decide (3 ≤ c) = false := decide_eq_false (by omega)
      rw [h3] at hn
      exact hn rfl
    have hB : ¬ (p = turnOf s ∧ s.mend.isSome = true ∧ legal s.made p c = false) := by
      rintro ⟨z1, z2, z3⟩
      by_cases h1 : s.mend = none ∨ p ≠ turnOf s ∨ c = 0
      · rcases h1 with q | q | q
        · rw [q] at z2
          cases z2
        · exact q z1
        · rw [q, legal_low ho' (by omega) (by omega)] at z3
          cases z3
      · rw [if_neg h1, z3, Bool.and_false] at hn
        exact hn rfl
    rw [if_neg hA, if_neg hB, empty_stand]
    unfold makeCall
    by_cases h1 : 0 < c ∧ c < 3 ∧ mayStand s.made p c = false
    · rw [if_pos (decide_eq_true h1), if_pos h1]
    · rw [if_neg (fun z => h1 (of_decide_eq_true z)), if_neg h1]
      by_cases h2 : p ≠ turnOf s
      · rw [if_pos h2, if_pos h2]
      · rw [if_neg h2, if_neg h2]
        have hms : 0 < c → c < 3 → mayStand s.made p c = true := fun z1 z2 => by
          cases q : mayStand s.made p c with
          | true => rfl
          | false => exact absurd ⟨z1, z2, q⟩ h1
        by_cases h3 : 3 ≤ c
        · by_cases h4 : legal s.made p c = false
          · rw [if_pos h4, if_pos ⟨h3, h4⟩]
          · rw [if_neg h4, if_neg (fun z => h4 z.2)]
            cases s.mend with
            | none => rfl
            | some x =>
              show Except.ok (if 3 ≤ c ∧ leastOver s.made (x.2 % 5) = some (c - 3) then _ else _, 0) = Except.ok (if (c : Int) - 3 = mendedI s.made x.2 then _ else _, 0)
              by_cases h5 : (c : Int) - 3 = mendedI s.made x.2
              · rw [if_pos h5, if_pos ⟨h3, (least_mended g x.2 h3 hc).mpr h5⟩]
              · rw [if_neg h5, if_neg (fun z => h5 ((least_mended g x.2 h3 hc).mp z.2))]
                rfl
        · rw [if_neg (by rw [legal_low ho' (by omega) (fun z => hms z (by omega))]; exact fun z => Bool.noConfusion z), if_neg (fun z => h3 z.1)]
          cases s.mend with
          | none => rfl
          | some x =>
            show Except.ok (if 3 ≤ c ∧ leastOver s.made (x.2 % 5) = some (c - 3) then _ else _, 0) = Except.ok (if (c : Int) - 3 = mendedI s.made x.2 then _ else _, 0)
            have hl := g.lastI
            rw [if_neg (fun z => h3 z.1), if_neg (by unfold mendedI; omega)]
            rfl
theorem does_dec {s : State} {y : Nat} (hy : y ≤ 1) : does s (1, y, 0) = if s.waits = none then .error (-7) else .ok (decided s (decide (y = 1))) := by
  show (match s.waits with
    | none => _
    | some (kind, seat, c) => _) = _
  unfold decided
  cases s.waits with
  | none => rfl
  | some x =>
    obtain ⟨k, p, c⟩ := x
    rw [if_neg (by simp)]
    dsimp only
    by_cases h : y = 1
    · rw [if_pos h, if_pos (decide_eq_true h)]
    · rw [if_neg h, if_neg (fun z => h (of_decide_eq_true z))]
      by_cases h1 : k = 1
      · rw [if_pos h1, if_pos h1]
      · rw [if_neg h1, if_neg h1]
        by_cases h2 : c = 0
        · rw [if_pos h2, if_pos h2]
        · rw [if_neg h2, if_neg h2]

/-! ### what holds of all tables -/
structure Core (s : State) : Prop where
  good : Good s.made
  wt : ∀ x, s.waits = some x → x.2.1 ≤ 3 ∧ x.2.2 ≤ 37 ∧ (x.1 = 1 → 3 ≤ x.2.2) ∧ (0 < x.2.2 → x.2.2 < 3 → mayStand s.made x.2.1 x.2.2 = true)
/-- one deed further -/
structure SameT (s s' : State) : Prop where
  on : s'.on = s.on
  dl : s'.dealer = s.dealer
  vl : s'.vul = s.vul
  dd : s'.deeds = s.deeds
  md : s'.made = s.made ∨ ∃ x, s'.made = s.made ++ [x]
theorem core_stands {s : State} {p c : Nat} (g : Good (s.made ++ [(p, c)])) : Core (stands s p c) := ⟨g, fun x h => by cases h⟩
theorem mk_core {s : State} (C : Core s) {p c : Nat} (hp : p ≤ 3) (hc : c ≤ 37) : Core (makeCall s p c).1 ∧ SameT s (makeCall s p c).1 := by
  unfold makeCall
  by_cases h1 : 0 < c ∧ c < 3 ∧ mayStand s.made p c = false
  · rw [if_pos h1]
    exact ⟨⟨C.good, C.wt⟩, rfl, rfl, rfl, rfl, .inl rfl⟩
  · rw [if_neg h1]
    have hms : 0 < c → c < 3 → mayStand s.made p c = true := fun z1 z2 => by
      cases q : mayStand s.made p c with
      | true => rfl
      | false => exact absurd ⟨z1, z2, q⟩ h1
    by_cases h2 : p ≠ turnOf s
    · rw [if_pos h2]
      exact ⟨⟨C.good, fun x h => by cases h; exact ⟨hp, hc, fun z => (by cases z), hms⟩⟩, rfl, rfl, rfl, rfl, .inl rfl⟩
    · rw [if_neg h2]
      by_cases h3 : 3 ≤ c ∧ legal s.made p c = false
      · rw [if_pos h3]
        exact ⟨⟨C.good, fun x h => by cases h; exact ⟨hp, hc, fun _ => h3.1, hms⟩⟩, rfl, rfl, rfl, rfl, .inl rfl⟩
      · rw [if_neg h3]
        have g := C.good.snoc hp hc hms
        cases s.mend with
        | none => exact ⟨core_stands g, rfl, rfl, rfl, rfl, .inr ⟨_, rfl⟩⟩
        | some x =>
          dsimp only
          by_cases h4 : (c : Int) - 3 = mendedI s.made x.2
          · rw [if_pos h4]
            exact ⟨core_stands g, rfl, rfl, rfl, rfl, .inr ⟨_, rfl⟩⟩
          · rw [if_neg h4]
            exact ⟨core_stands (s := bar s (partner p)) g, rfl, rfl, rfl, rfl, .inr ⟨_, rfl⟩⟩
theorem dc_core {s : State} (C : Core s) (y : Bool) : Core (decided s y).1 ∧ SameT s (decided s y).1 := by
  unfold decided
  cases hw : s.waits with
  | none => exact ⟨C, rfl, rfl, rfl, rfl, .inl rfl⟩
  | some x =>
    obtain ⟨k, p, c⟩ := x
    obtain ⟨w1, w2, w3, w4⟩ := C.wt _ hw
    dsimp only
    by_cases h : y = true
    · rw [if_pos h]
      exact ⟨core_stands (C.good.snoc w1 w2 w4), rfl, rfl, rfl, rfl, .inr ⟨_, rfl⟩⟩
    · rw [if_neg h]
      by_cases h1 : k = 1
      · rw [if_pos h1]
        exact ⟨⟨C.good, fun x h => by cases h⟩, rfl, rfl, rfl, rfl, .inl rfl⟩
      · rw [if_neg h1]
        by_cases h2 : c = 0
        · rw [if_pos h2]
          exact ⟨⟨C.good, fun x h => by cases h⟩, rfl, rfl, rfl, rfl, .inl rfl⟩
        · rw [if_neg h2]
          exact ⟨⟨C.good, fun x h => by cases h⟩, rfl, rfl, rfl, rfl, .inl rfl⟩
def dOk (d : Deed) : Prop := (d.1 = 0 ∧ d.2.1 ≤ 3 ∧ d.2.2 ≤ 37) ∨ (d.1 = 1 ∧ d.2.1 ≤ 1 ∧ d.2.2 = 0)
theorem does_core {s : State} (C : Core s) {d : Deed} (hd : dOk d) {x : State × Nat} (h : does s d = .ok x) : Core x.1 ∧ SameT s x.1 := by
  obtain ⟨k, p, c⟩ := d
  rcases hd with ⟨h0, h1, h2⟩ | ⟨h0, h1, h2⟩
  · obtain rfl : k = 0 := h0
    rw [does_call C.good h2] at h
    split at h
    · cases h
    · split at h
      · cases h
      · split at h
        · cases h
        · split at h
          · cases h
          · cases h
            exact mk_core C h1 h2
  · obtain rfl : k = 1 := h0
    obtain rfl : c = 0 := h2
    rw [does_dec h1] at h
    split at h
    · cases h
    · cases h
      exact dc_core C _
/-- a table that deeds have made of a new one -/
inductive Run (d v : Nat) : State → Prop
  | nil : Run d v (begun d v)
  | step {s s' : State} {n : Nat} {x : Deed} : Run d v s → dOk x → keeping s x = .ok (s', n) → Run d v s'
theorem replay_append (a b : List Deed) : ∀ s, replay s (a ++ b) = replay (replay s a) b := by
  induction a with
  | nil => intro s; rfl
  | cons x r ih =>
    intro s
    show replay s (x :: (r ++ b)) = replay (replay s (x :: r)) b
    have e : ∀ l, replay s (x :: l) = match keeping s x with
      | .error _ => replay s l
      | .ok y => replay y.1 l := fun l => rfl
    rw [e, e]
    cases keeping s x with
    | error z => exact ih s
    | ok y => exact ih y.1
theorem keep_ok {s s' : State} {n : Nat} {x : Deed} (h : keeping s x = .ok (s', n)) : ∃ t, does s x = .ok (t, n) ∧ s.deeds.length < 320 ∧ s' = { t with deeds := s.deeds ++ [x] } := by
  unfold keeping at h
  cases q : does s x with
  | error z =>
    rw [q] at h
    cases h
  | ok y =>
    rw [q] at h
    dsimp only at h
    by_cases hd : DEEDS ≤ s.deeds.length
    · rw [if_pos hd] at h
      cases h
    · rw [if_neg hd] at h
      have h2 := Except.ok.inj h
      obtain ⟨t, m⟩ := y
      have e1 : { t with deeds := s.deeds ++ [x] } = s' := congrArg Prod.fst h2
      have e2 : m = n := congrArg Prod.snd h2
      subst e2
      exact ⟨t, rfl, by unfold DEEDS at hd; omega, e1.symm⟩
structure Inv (d v : Nat) (s : State) : Prop where
  on : s.on = true
  dl : s.dealer = d
  vl : s.vul = v
  core : Core s
  dn : s.deeds.length ≤ 320
  ml : s.made.length ≤ s.deeds.length
  rs : replay (begun d v) s.deeds = s
  rp : ∀ i, i ≤ s.deeds.length → Run d v (replay (begun d v) (s.deeds.take i)) ∧ (replay (begun d v) (s.deeds.take i)).deeds = s.deeds.take i ∧ ∃ r, s.made = (replay (begun d v) (s.deeds.take i)).made ++ r
theorem Run.inv {d v : Nat} {s : State} (R : Run d v s) : Inv d v s := by
  induction R with
  | nil => exact ⟨rfl, rfl, rfl, ⟨Good.nil, fun x h => by cases h⟩, Nat.zero_le _, Nat.le_refl _, rfl, fun i hi => by
      obtain rfl : i = 0 := Nat.le_zero.mp hi
      exact ⟨Run.nil, rfl, [], rfl⟩⟩
  | @step s s' n x R ok h I =>
    obtain ⟨t, h1, h2, rfl⟩ := keep_ok h
    obtain ⟨C, S⟩ := does_core I.core ok h1
    have hr : replay (begun d v) (s.deeds ++ [x]) = { t with deeds := s.deeds ++ [x] } := by
      rw [replay_append, I.rs]
      show (match keeping s x with
        | .error _ => replay s []
        | .ok y => replay y.1 []) = _
      rw [h]
      rfl
    refine ⟨S.on.trans I.on, S.dl.trans I.dl, S.vl.trans I.vl, ⟨C.good, C.wt⟩, ?_, ?_, hr, fun i hi => ?_⟩
    · show (s.deeds ++ [x]).length ≤ 320
      rw [List.length_append]
      exact h2
    · show t.made.length ≤ (s.deeds ++ [x]).length
      rw [List.length_append]
      have := I.ml
      rcases S.md with e | ⟨y, e⟩
      · rw [e]
        show s.made.length ≤ s.deeds.length + 1
        omega
      · rw [e, List.length_append]
        show s.made.length + 1 ≤ s.deeds.length + 1
        omega
    · have hi' : i ≤ (s.deeds ++ [x]).length := hi
      rw [List.length_append] at hi'
      have hi'' : i ≤ s.deeds.length + 1 := hi'
      show Run d v (replay (begun d v) ((s.deeds ++ [x]).take i)) ∧ (replay (begun d v) ((s.deeds ++ [x]).take i)).deeds = (s.deeds ++ [x]).take i ∧ ∃ r, t.made = _
      by_cases hq : i ≤ s.deeds.length
      · rw [List.take_append_of_le_length hq]
        obtain ⟨a, b, r, e⟩ := I.rp i hq
        refine ⟨a, b, ?_⟩
        rcases S.md with e2 | ⟨y, e2⟩
        · exact ⟨r, by rw [e2]; exact e⟩
        · refine ⟨r ++ [y], ?_⟩
          rw [e2, ← List.append_assoc, ← e]
      · have ei : i = s.deeds.length + 1 := by omega
        subst ei
        rw [List.take_of_length_le (by rw [List.length_append]; exact Nat.le_refl _), hr]
        exact ⟨.step R ok h, rfl, [], by simp⟩
/-! ### the past -/
def histOf (s : State) : List State := (List.range s.deeds.length).map fun i => replay (begun s.dealer s.vul) (s.deeds.take i)
theorem hist_len (s : State) : (histOf s).length = s.deeds.length := by
  unfold histOf
  rw [List.length_map, List.length_range]
theorem hist_get {s : State} {i : Nat} (h : i < s.deeds.length) : (histOf s)[i]? = some (replay (begun s.dealer s.vul) (s.deeds.take i)) := by
  unfold histOf
  rw [List.getElem?_map, List.getElem?_range h]
  rfl
/-- the past behind a deed -/
theorem hist_step {d v : Nat} {s t : State} {x : Deed} (I : Inv d v s) (S : SameT s t) : histOf { t with deeds := s.deeds ++ [x] } = histOf s ++ [s] := by
  unfold histOf
  show (List.range (s.deeds ++ [x]).length).map (fun i => replay (begun t.dealer t.vul) ((s.deeds ++ [x]).take i)) = _
  rw [S.dl, S.vl, List.length_append]
  show (List.range (s.deeds.length + 1)).map _ = _
  rw [List.range_succ, List.map_append]
  congr 1
  · refine List.map_congr_left fun i hi => ?_
    rw [List.take_append_of_le_length (Nat.le_of_lt (List.mem_range.mp hi))]
  · show [replay (begun s.dealer s.vul) ((s.deeds ++ [x]).take s.deeds.length)] = [s]
    rw [List.take_left, I.dl, I.vl, I.rs]
/-- the table some deeds ago -/
theorem back_is {d v : Nat} {s : State} (I : Inv d v s) {i : Nat} (h : i ≤ s.deeds.length) : 
    let t := replay (begun d v) (s.deeds.take i)
    s.made.take t.made.length = t.made ∧ t.dealer = s.dealer ∧ t.vul = s.vul ∧ histOf t = (histOf s).take i := by
  obtain ⟨R, e1, r, e2⟩ := I.rp i h
  have J := R.inv
  refine ⟨?_, J.dl.trans I.dl.symm, J.vl.trans I.vl.symm, ?_⟩
  · rw [e2, List.take_left]
  · unfold histOf
    rw [e1, J.dl, J.vl, I.dl, I.vl, ← List.map_take, List.take_range, List.length_take]
    have em : min i s.deeds.length = i := Nat.min_eq_left h
    rw [em]
    refine List.map_congr_left fun j hj => ?_
    have := List.mem_range.mp hj
    rw [List.take_take]
    have em2 : min j i = j := by omega
    rw [em2]

/-! ### auctions that are read -/
def readDeeds (m : Made) : List Deed := m.map fun x => (0, x.1, x.2)
def readState (d v : Nat) (m : Made) : State := { begun d v with made := m, deeds := readDeeds m }
theorem read_step {d v : Nat} (hd : d ≤ 3) {m : Made} (g : Good m) (hl : m.length < 320) {c : Nat} (h : legal m (turn d m) c = true) :
    keeping (readState d v m) (0, turn d m, c) = .ok (readState d v (m ++ [(turn d m, c)]), 0) := by
  have ho := over_of_legal h
  obtain ⟨g2, hc⟩ := legal_good hd g h
  have e1 : does (readState d v m) (0, turn d m, c) = .ok (stands (readState d v m) (turn d m) c, 0) := by
    rw [does_call (s := readState d v m) g hc]
    have q1 : over (readState d v m).made = false := ho
    rw [q1, if_neg Bool.false_ne_true, if_neg (show ¬ (readState d v m).waits.isSome = true from Bool.false_ne_true), if_neg (show ¬ (c ≠ 0 ∧ ((readState d v m).barred.contains (turn d m) || (readState d v m).once.contains (turn d m)) = true) from fun z => Bool.false_ne_true z.2)]
    have q2 : needed (readState d v m) (turn d m) c = true := by
      unfold needed
      rw [if_pos (.inl rfl)]
    rw [q2, if_neg (by exact fun z => Bool.noConfusion z)]
    unfold makeCall
    rw [if_neg (show ¬ (0 < c ∧ c < 3 ∧ mayStand (readState d v m).made (turn d m) c = false) from ?_), if_neg (show ¬ turn d m ≠ turnOf (readState d v m) from fun z => z rfl), if_neg (show ¬ (3 ≤ c ∧ legal (readState d v m).made (turn d m) c = false) from fun z => by
      have z2 : legal m (turn d m) c = false := z.2
      rw [h] at z2
      cases z2)]
    · rfl
    · rintro ⟨z1, z2, z3⟩
      have z3' : mayStand m (turn d m) c = false := z3
      unfold legal at h
      by_cases h1 : c = 1
      · subst h1
        rw [mayStand_1] at z3'
        rw [z3'] at h
        simp at h
      · have h2 : c = 2 := by omega
        subst h2
        rw [mayStand_2] at z3'
        rw [z3'] at h
        simp at h
  unfold keeping
  rw [e1]
  dsimp only
  rw [if_neg (show ¬ DEEDS ≤ (readState d v m).deeds.length from by
    show ¬ 320 ≤ (readDeeds m).length
    unfold readDeeds
    rw [List.length_map]
    omega)]
  have e3 : readDeeds (m ++ [(turn d m, c)]) = readDeeds m ++ [(0, turn d m, c)] := by
    unfold readDeeds
    rw [List.map_append]
    rfl
  have e4 : readState d v (m ++ [(turn d m, c)]) = { begun d v with made := m ++ [(turn d m, c)], deeds := readDeeds m ++ [(0, turn d m, c)] } := by
    unfold readState
    rw [e3]
  rw [e4]
  rfl
theorem read_all {d v : Nat} (hd : d ≤ 3) {m : Made} (L : Leg d m) : ∀ i, i ≤ m.length → replay (begun d v) (readDeeds (m.take i)) = readState d v (m.take i) ∧ Run d v (readState d v (m.take i)) ∧ Leg d (m.take i)
  | 0, _ => ⟨rfl, Run.nil, Leg.nil hd⟩
  | i + 1, h => by
    obtain ⟨h1, h2, h3⟩ := read_all hd L i (by omega)
    have hx : m[i]? = some m[i] := List.getElem?_eq_getElem (by omega)
    obtain ⟨e1, e2⟩ := L.each i _ hx
    have et : m.take (i + 1) = m.take i ++ [(turn d (m.take i), m[i].2)] := by
      rw [List.take_add_one, hx, ← e1]
      rfl
    rw [e1] at e2
    have hlen : (m.take i).length < 320 := by
      rw [List.length_take]
      have := L.len
      omega
    have st := read_step (v := v) hd h3.good hlen e2
    rw [et]
    refine ⟨?_, .step h2 (.inl ⟨rfl, turn_lt hd _, (legal_good hd h3.good e2).2⟩) st, h3.snoc hd e2⟩
    have e3 : readDeeds (m.take i ++ [(turn d (m.take i), m[i].2)]) = readDeeds (m.take i) ++ [(0, turn d (m.take i), m[i].2)] := by
      unfold readDeeds
      rw [List.map_append]
      rfl
    rw [e3, replay_append, h1]
    show (match keeping (readState d v (m.take i)) (0, turn d (m.take i), m[i].2) with
      | .error _ => replay (readState d v (m.take i)) []
      | .ok y => replay y.1 []) = _
    rw [st]
    rfl
end G
namespace G
open PySem PySem.Spec PyProof.Rows L2 Evl
open Vbbrac (State begun ranged act keeping did replay)

def TblF (c : Cn) (H : Hp) (v : V) (F : List Addr) (s : State) : Prop := (s.on = false ∧ v = .non ∧ F = []) ∨ ∃ (d w : Nat) (a : Addr) (A : Ads), Run d w s ∧ d ≤ 3 ∧ w ≤ 3 ∧ v = .ref a ∧ F = a :: A.l ∧ TabAt c H a A s (histOf s)
def SessAt (c : Cn) (H : Hp) (as : Addr) (F : List Addr) (s : State) : Prop := ∃ (dxs : Addr) (v : V) (F' : List Addr), H as = some (.ins c.CS dxs [("table", v)]) ∧ F = as :: F' ∧ TblF c H v F' s
theorem TblF.mono {c : Cn} {H H' : Hp} {v : V} {F : List Addr} {s : State} (h : TblF c H v F s) (e : Ex H H') : TblF c H' v F s := by
  rcases h with h | ⟨d, w, a, A, h1, h2, h3, h4, h5, T⟩
  · exact .inl h
  · exact .inr ⟨d, w, a, A, h1, h2, h3, h4, h5, T.mono e⟩
theorem SessAt.mono {c : Cn} {H H' : Hp} {as : Addr} {F : List Addr} {s : State} (h : SessAt c H as F s) (e : Ex H H') : SessAt c H' as F s :=
  let ⟨dxs, v, F', h1, h2, h3⟩ := h; ⟨dxs, v, F', e _ _ h1, h2, h3.mono e⟩
/-- what is asked of the answer of a call that may change the table -/
def StepQ (c : Cn) (as : Addr) (F : List Addr) (H : Hp) (r : State × List Int) (Q : VK) : Prop := ∀ p H' F', SessAt c H' as F' r.1 → H' p = some (.lst (r.2.map V.int)) → (p ∈ F ∨ H p = none) → Keep F H H' → (∀ x ∈ F', x ∈ F ∨ H x = none) → Q (.ref p) H'
theorem StepQ.same {c : Cn} {as : Addr} {F : List Addr} {H : Hp} {s : State} {l : List Int} {Q : VK} {r : State × List Int} (k : StepQ c as F H r Q) (e : r = (s, l)) (S : SessAt c H as F s) : RetL (l.map V.int) H Q := by
  subst e
  exact fun p H2 hp e2 h2 => k p H2 F (S.mono e2) h2 (.inr hp) (Keep.of_ex e2) fun x hx => .inl hx
theorem putF_table {v w : V} : putF "table" w [(("table" : Str), v)] = [(("table" : Str), w)] := by rfl
theorem lk_table {v : V} : ([("table", v)] : List (Str × V)).lookup ("table" : Str) = some v := by rfl
theorem ins_ne_lst {C dx : Addr} {fs : List (Str × V)} {xs : List V} : (HO.ins C dx fs : HO) ≠ .lst xs := fun z => by cases z
theorem ins_ne_tup {C dx : Addr} {fs : List (Str × V)} {xs : List V} : (HO.ins C dx fs : HO) ≠ .tup xs := fun z => by cases z
theorem sess_ne_tab {c : Cn} {H : Hp} {as a dxs : Addr} {A : Ads} {s : State} {hs : List State} {v : V} (hS : H as = some (.ins c.CS dxs [("table", v)])) (T : TabAt c H a A s hs) : as ≠ a := by
  obtain ⟨w, m, h1, _⟩ := T.tab
  refine ne_of hS h1 fun z => ?_
  have q := congrArg (fun z => match z with | HO.ins _ _ fs => fs.length | _ => 0) z
  have q2 : (1 : Nat) = 8 := q
  omega
theorem sess_not_in {c : Cn} {H : Hp} {as a dxs : Addr} {A : Ads} {s : State} {hs : List State} {fs : List (Str × V)} (hS : H as = some (.ins c.CS dxs fs)) (T : TabAt c H a A s hs) : as ∉ A.l := by
  intro hx
  obtain ⟨mv, hv, _⟩ := T.made
  obtain ⟨ps, hps, _⟩ := T.past
  simp only [Ads.l, List.mem_cons, List.not_mem_nil, or_false] at hx
  rcases hx with rfl | rfl | rfl | rfl
  · exact ins_ne_lst (Option.some.inj (hS.symm.trans hv))
  · exact ins_ne_lst (Option.some.inj (hS.symm.trans T.bar))
  · exact ins_ne_lst (Option.some.inj (hS.symm.trans T.once))
  · exact ins_ne_lst (Option.some.inj (hS.symm.trans hps))
/-- an instance that is no table is written -/
theorem TabAt.updI {c : Cn} {H : Hp} {a x C dx : Addr} {A : Ads} {s : State} {hs : List State} {fs fs' : List (Str × V)} (T : TabAt c H a A s hs) (hx : H x = some (.ins C dx fs)) (n : x ≠ a) : TabAt c (upd H x (.ins C dx fs')) a A s hs := by
  have kt := tup_upd (o := .ins C dx fs') (x := x) (H := H) fun xs q => ins_ne_tup (Option.some.inj (hx.symm.trans q))
  have kl : ∀ b xs, H b = some (.lst xs) → upd H x (.ins C dx fs') b = some (.lst xs) := fun b xs q => by
    rw [upd_ne (ne_of q hx (by intro z; cases z))]
    exact q
  obtain ⟨⟨w, m, h1, h2, h3⟩, ⟨vs', e, hm⟩, hb, ho, ⟨ps, p1, p2⟩, nd⟩ := T
  exact ⟨⟨w, m, by rw [upd_ne (Ne.symm n)]; exact h1, h2.keep kt, h3.keep kt⟩, ⟨_, kl _ _ e, hm.keep kt⟩, kl _ _ hb, kl _ _ ho, ⟨ps, kl _ _ p1, p2.keep kt fun b xs n q => ⟨kl _ _ q, n⟩⟩, nd⟩
/-- the state behind a table does not matter but for what stands in the heap -/
theorem TabAt.like {c : Cn} {H : Hp} {a : Addr} {A : Ads} {s t : State} {hs : List State} (T : TabAt c H a A s hs) (e1 : t.dealer = s.dealer) (e2 : t.vul = s.vul) (e3 : t.made = s.made) (e4 : t.barred = s.barred) (e5 : t.once = s.once) (e6 : t.waits = s.waits) (e7 : t.mend = s.mend) : TabAt c H a A t hs := by
  obtain ⟨h1, h2, h3, h4, h5, h6⟩ := T
  exact ⟨by rw [e1, e2, e6, e7]; exact h1, by rw [e3]; exact h2, by rw [e4]; exact h3, by rw [e5]; exact h4, h5, h6⟩
theorem sess_of {c : Cn} {H H' : Hp} {as a dxs : Addr} {A A' : Ads} {s s' : State} {hs : List State} {d w : Nat} (hS : H as = some (.ins c.CS dxs [("table", .ref a)])) (T : TabAt c H a A s hs) (T' : TabAt c H' a A' s' (histOf s')) (R : Run d w s') (hd : d ≤ 3) (hw : w ≤ 3)
    (kp : Keep (a :: A.l) H H') (nn : ∀ x ∈ A'.l, x ∈ A.l ∨ H x = none) : SessAt c H' as (as :: a :: A'.l) s' ∧ Keep (as :: a :: A.l) H H' ∧ ∀ x ∈ as :: a :: A'.l, x ∈ as :: a :: A.l ∨ H x = none := by
  refine ⟨⟨dxs, .ref a, _, kp _ _ hS ?_, rfl, .inr ⟨d, w, a, A', R, hd, hw, rfl, rfl, T'⟩⟩, kp.mono fun x hx => List.mem_cons_of_mem _ hx, fun x hx => ?_⟩
  · intro z
    rcases List.mem_cons.mp z with z | z
    · exact sess_ne_tab hS T z
    · exact sess_not_in hS T z
  · rcases List.mem_cons.mp hx with z | z
    · exact .inl (by rw [z]; exact List.mem_cons_self)
    · rcases List.mem_cons.mp z with z | z
      · exact .inl (by rw [z]; exact List.mem_cons_of_mem _ List.mem_cons_self)
      · exact (nn x z).imp (fun q => List.mem_cons_of_mem _ (List.mem_cons_of_mem _ q)) id
/-- the answer's list, behind a change -/
theorem StepQ.fin {c : Cn} {as : Addr} {F F' : List Addr} {H H1 : Hp} {s' : State} {l : List Int} {Q : VK} {p : Addr} {r : State × List Int} (k : StepQ c as F H r Q) (e : r = (s', l)) (S : SessAt c H1 as F' s') (kp : Keep F H H1) (nn : ∀ x ∈ F', x ∈ F ∨ H x = none) (hp : H1 p = none) : Q (.ref p) (upd H1 p (.lst (l.map V.int))) := by
  subst e
  have ex : Ex H1 (upd H1 p (.lst (l.map V.int))) := Ex.new hp
  refine k p _ F' (S.mono ex) upd_same ?_ (kp.trans (Keep.of_ex ex)) nn
  by_cases q : p ∈ F
  · exact .inl q
  · right
    cases z : H p with
    | none => rfl
    | some o =>
      rw [kp p o z q] at hp
      cases hp
theorem s_ret02 {sp : Sp} {ta : TA} {D : Ends} {σ : L2.St} {H : Hp} (h : tCall sp [] E0 ta σ H fun v H1 => 2 ≤ sizeLine ∧ ∀ p, H1 p = none → D.rt (.ref p) (upd H1 p (.lst [.int 0, v]))) : tRet (tLst (tCons (tC (.int 0)) (tCons (tCall sp [] E0 ta) tNil))) D σ H := h
/-- a new table -/
theorem mk_table {c : Cn} {σ : L2.St} {H : Hp} {ta : TA} {d v : Nat} {Q : VK} (h : EvA ta σ H [.int (d : Nat), .int (v : Nat)]) (k : ∀ a A H1, TabAt c H1 a A (begun d v) [] → Ex H H1 → H a = none → (∀ x ∈ A.l, H x = none) → Q (.ref a) H1) : tMake c.CT (sp_Table_init c) [] E0 ta σ H Q :=
  h H (Ex.refl H) _ fun H2 e2 => fun x dx hx hdx ne => by
    rw [List.append_nil]
    refine ⟨x, dx, d, v, rfl, upd_same, fun H3 A T kp nn => ⟨rfl, ?_⟩⟩
    have up : ∀ b o, H2 b = some o → upd (upd H2 dx (.own x)) x (.ins c.CT dx []) b = some o := fun b o hb => by
      rw [upd_ne (ne_of_none hb hx), upd_ne (ne_of_none hb hdx)]
      exact hb
    refine k x A H3 T (e2.trans fun b o hb => kp b o (up b o hb) ?_) (fresh_back e2 hx) fun y hy => ?_
    · simp only [List.mem_singleton]
      exact ne_of_none hb hx
    · refine fresh_back e2 ?_
      cases q : H2 y with
      | none => rfl
      | some o =>
        have z := nn y hy
        rw [up y o q] at z
        cases z
theorem fld_ap {K : PySem.W.Frag} {ta tv : TE} {f : Str} {D : Ends} {tz : TS} {σ : L2.St} {H : Hp} (h : tv σ H fun y H1 => ta σ H1 fun x H2 => ∃ a C dx fs, x = .ref a ∧ H2 a = some (.ins C dx fs) ∧ Cls K C ∧ NoAttr K C f ∧ fs.length < 1000 ∧ tz D σ (upd H2 a (.ins C dx (putF f y fs)))) : tSeq (sFld K ta tv f) tz D σ H := h
theorem q_fldT {c : Cn} (Z : Zs c) {σ : L2.St} {H : Hp} {ta : TA} {to : TE} {D : Ends} {tz : TS} {d v : Nat} {as dxs : Addr} {w : V} (h : EvA ta σ H [.int (d : Nat), .int (v : Nat)]) (ho : Ev to σ H (.ref as)) (hS : H as = some (.ins c.CS dxs [("table", w)]))
    (k : ∀ a A H1, TabAt c H1 a A (begun d v) [] → Ex H H1 → H a = none → (∀ x ∈ A.l, H x = none) → tz D σ (upd H1 as (.ins c.CS dxs [("table", .ref a)]))) : tSeq (sFld c.K to (tMake c.CT (sp_Table_init c) [] E0 ta) "table") tz D σ H :=
  fld_ap (mk_table (c := c) h fun a A H1 T e1 ha hA => ho H1 e1 _ fun H2 e2 => ⟨as, c.CS, dxs, _, rfl, (e1.trans e2) _ _ hS, Z.zS.cl, Z.zS.no _ (by simp), by show (1 : Nat) < 1000; decide, k a A H2 (T.mono e2) (e1.trans e2) ha hA⟩)
/-- a session with a table that was new -/
theorem sess_new {c : Cn} {H H1 : Hp} {as a dxs : Addr} {A : Ads} {s' : State} {F : List Addr} {d w : Nat} {v : V} (hF : as ∈ F) (hS : H as = some (.ins c.CS dxs [("table", v)])) (e : Ex H H1) (T : TabAt c H1 a A s' (histOf s')) (R : Run d w s') (hd : d ≤ 3) (hw : w ≤ 3) (ha : H a = none) (hA : ∀ x ∈ A.l, H x = none) :
    SessAt c (upd H1 as (.ins c.CS dxs [("table", .ref a)])) as (as :: a :: A.l) s' ∧ Keep F H (upd H1 as (.ins c.CS dxs [("table", .ref a)])) ∧ ∀ x ∈ as :: a :: A.l, x ∈ F ∨ H x = none := by
  have n : as ≠ a := ne_of_none hS ha
  refine ⟨⟨dxs, .ref a, _, upd_same, rfl, .inr ⟨d, w, a, A, R, hd, hw, rfl, rfl, T.updI (e _ _ hS) n⟩⟩, (Keep.of_ex e).upd hF, fun x hx => ?_⟩
  rcases List.mem_cons.mp hx with z | z
  · exact .inl (by rw [z]; exact hF)
  · rcases List.mem_cons.mp z with z | z
    · exact .inr (by rw [z]; exact ha)
    · exact .inr (hA x z)

/-! ### promises -/
def sp_Session_init (c : Cn) : Sp := fun vs H Q _ => ∃ (p dx : Addr), vs = [.ref p] ∧ H p = some (.ins c.CS dx []) ∧ ∀ H', H' p = some (.ins c.CS dx [("table", .non)]) → Keep [p] H H' → Q .non H'
def sp_step1 (c : Cn) (mk : Int → Vbbrac.Call) : Sp := fun vs H Q _ => ∃ (as : Addr) (F : List Addr) (s : State) (x : Int), vs = [.ref as, .int x] ∧ SessAt c H as F s ∧ StepQ c as F H (Vbbrac.step s (mk x)) Q
def sp_step2 (c : Cn) (mk : Int → Int → Vbbrac.Call) : Sp := fun vs H Q _ => ∃ (as : Addr) (F : List Addr) (s : State) (x y : Int), vs = [.ref as, .int x, .int y] ∧ SessAt c H as F s ∧ StepQ c as F H (Vbbrac.step s (mk x y)) Q
abbrev sp_deal (c : Cn) : Sp := sp_step2 c .deal
abbrev sp_board (c : Cn) : Sp := sp_step1 c .board
abbrev sp_call_at_table (c : Cn) : Sp := sp_step2 c .call
abbrev sp_decide (c : Cn) : Sp := sp_step1 c .decide
abbrev sp_undo (c : Cn) : Sp := sp_step1 c .undo
/-- a text that is read: kind, place, the calls made -/
def lookN (e : Except (Nat × Nat) Mds) (m : Mds) : Nat × Nat := match e with
  | .error x => x
  | .ok _ => (0, m.length)
def sp_looked_at (c : Cn) : Sp := fun vs H Q _ => ∃ (d : Nat) (b : Addr) (t : List Nat), vs = [.int (d : Nat), .ref b] ∧ d ≤ 3 ∧ SqL c.K H b (nV t) ∧ t.length ≤ 1000 ∧
  ∀ p am m H', Ex H H' → H am = none → MadeAt H' am m → (∀ m', Vbbrac.readText d t = .ok m' → m = m') → H' p = some (.tup [.int ((lookN (Vbbrac.readText d t) m).1 : Nat), .int ((lookN (Vbbrac.readText d t) m).2 : Nat), .ref am]) → Q (.ref p) H'
def sp_look (c : Cn) : Sp := fun vs H Q _ => ∃ (s : State) (d : Int) (b : Addr) (t : List Int), vs = [.int d, .ref b] ∧ SqL c.K H b (t.map V.int) ∧ t.length ≤ 1000 ∧ RetL ((Vbbrac.step s (.look d t)).2.map V.int) H Q
def sp_nth (c : Cn) : Sp := fun vs H Q _ => ∃ (s : State) (d : Int) (b : Addr) (t : List Int), vs = [.int d, .ref b] ∧ SqL c.K H b (t.map V.int) ∧ t.length ≤ 1000 ∧ RetL ((Vbbrac.step s (.nth d t)).2.map V.int) H Q
def sp_read_auction (c : Cn) : Sp := fun vs H Q _ => ∃ (as : Addr) (F : List Addr) (s : State) (x y : Int) (b : Addr) (t : List Int), vs = [.ref as, .int x, .int y, .ref b] ∧ SessAt c H as F s ∧ SqL c.K H b (t.map V.int) ∧ t.length ≤ 1000 ∧ StepQ c as F H (Vbbrac.step s (.read x y t)) Q
/-- what is asked of the table alone -/
def sp_ask (c : Cn) (q : Vbbrac.Call) : Sp := fun vs H Q _ => ∃ (v : V) (F : List Addr) (s : State), vs = [v] ∧ TblF c H v F s ∧ RetL ((Vbbrac.step s q).2.map V.int) H Q
def sp_named (c : Cn) : Sp := fun vs H Q _ => ∃ (v : V) (F : List Addr) (s : State) (x y : Int), vs = [v, .int x, .int y] ∧ TblF c H v F s ∧ RetL ((Vbbrac.step s (.named x y)).2.map V.int) H Q
def sp_bound_number (c : Cn) : Sp := RetSp fun vs H z => ∃ a A s hs, ∃ p : Nat, vs = [.ref a, .int (p : Nat)] ∧ TabAt c H a A s hs ∧ p ≤ 3 ∧ z = .int ((if s.barred.contains p = true then 2 else if s.once.contains p = true then 1 else 0 : Nat) : Int)

def AskIs (x : Int) (q : Vbbrac.Call) : Prop := (x = 5 ∧ q = .table) ∨ (x = 6 ∧ q = .legals) ∨ (x = 7 ∧ q = .contract) ∨ (x = 8 ∧ q = .ways) ∨ (x = 9 ∧ q = .longest) ∨ (x = 10 ∧ q = .number) ∨ (x = 12 ∧ q = .text) ∨ (x = 15 ∧ q = .made)
def sp_asked_answer (c : Cn) : Sp := fun vs H Q _ => ∃ (v : V) (F : List Addr) (s : State) (x : Int) (q : Vbbrac.Call), vs = [v, .int x] ∧ TblF c H v F s ∧ AskIs x q ∧ RetL ((Vbbrac.step s q).2.map V.int) H Q
theorem sl_ask {c : Cn} {H : Hp} {v : V} {F : List Addr} {s : State} {q : Vbbrac.Call} (tf : TblF c H v F s) : SpL (sp_ask c q) ([v] ++ []) H ((Vbbrac.step s q).2.map V.int) := fun H1 e Q k E => ⟨v, F, s, rfl, tf.mono e, fun p H2 hp e2 h2 => k p H2 hp e2 h2⟩
/-- a call by its numbers and its row -/
inductive CallIs (t : List Int) : List Int → Vbbrac.Call → Prop
  | deal (a b : Int) : CallIs t [0, a, b] (.deal a b)
  | board (a : Int) : CallIs t [1, a] (.board a)
  | call (a b : Int) : CallIs t [2, a, b] (.call a b)
  | decide (a : Int) : CallIs t [3, a] (.decide a)
  | undo (a : Int) : CallIs t [4, a] (.undo a)
  | ask (x : Int) (q : Vbbrac.Call) : AskIs x q → CallIs t [x] q
  | nth (a : Int) : CallIs t [11, a] (.nth a t)
  | look (a : Int) : CallIs t [13, a] (.look a t)
  | read (a b : Int) : CallIs t [14, a, b] (.read a b t)
  | named (a b : Int) : CallIs t [16, a, b] (.named a b)
def sp_answer_of (c : Cn) : Sp := fun vs H Q _ => ∃ (as : Addr) (F : List Addr) (s : State) (p b : Addr) (xs t : List Int) (q : Vbbrac.Call), vs = [.ref as, .ref p, .ref b] ∧ SessAt c H as F s ∧ SqL c.K H p (xs.map V.int) ∧ SqL c.K H b (t.map V.int) ∧ t.length ≤ 1000 ∧ CallIs t xs q ∧ StepQ c as F H (Vbbrac.step s q) Q

/-! ### steps -/
theorem step_bad {s : State} {q : Vbbrac.Call} (h : ranged q = false) : Vbbrac.step s q = (s, [-1]) := by
  unfold Vbbrac.step
  rw [if_pos h]
theorem nat_of {x : Int} (h : 0 ≤ x) : ∃ n : Nat, x = (n : Int) := ⟨x.toNat, by omega⟩
end G
namespace G
open PySem PySem.Spec PyProof.Rows L2 Evl
open Vbbrac (State begun ranged act keeping did replay)
local macro_rules | `(tactic| walk_at "ea") => `(tactic| first
  | with_reducible exact ea_nil
  | ((with_reducible refine' ea_cons ?eah ?eat); (case eah => walk_at "ev"); (case eat => walk_at "ea")))
local macro_rules | `(tactic| walk_at "rv") => `(tactic| first
  | with_reducible exact rv_I0
  | with_reducible exact rv_isN0
  | with_reducible exact rv_isNr
  | with_reducible exact rv_isNi
  | with_reducible exact rv_notN0
  | with_reducible exact rv_notNr
  | with_reducible exact rv_notNi
  | with_reducible exact rv_isN
  | with_reducible exact rv_notN
  | ((with_reducible refine' rv_eq ?rve); (case rve => rfl))
  | ((with_reducible refine' rv_ne ?rve); (case rve => rfl))
  | ((with_reducible refine' rv_I ?rve); (case rve => first | (exact (by decide)) | ((try dsimp only); first | decide | omega))))
local macro_rules | `(tactic| walk_at "ev") => `(tactic| first
  | with_reducible assumption
  | ((with_reducible refine' ev_var ?e0); (case e0 => exact rfl))
  | with_reducible exact ev_c
  | ((with_reducible refine' ev_op ?e1 ?e2 ?e3); (case e1 => walk_at "ev"); (case e2 => walk_at "ev"); (case e3 => walk_at "rv"))
  | ((with_reducible refine' ev_un ?e1 ru_neg); (case e1 => walk_at "ev"))
  | ((with_reducible refine' ev_call ?ca ?cb); (case ca => walk_at "ea"); (case cb => walk_at "gsp"))
  | ((with_reducible refine' ev_chain ?e1 ?e2 ?e3 ?e4 ?e5); (case e1 => walk_at "ev"); (case e2 => walk_at "ev"); (case e3 => walk_at "rv"); (case e4 => walk_at "ev"); (case e5 => walk_at "rv"))
  | ((with_reducible refine' ev_notV ?e1); (case e1 => walk_at "ev"))
  | fail "ev")
local macro_rules | `(tactic| walk_at "et") => `(tactic| first
  | with_reducible assumption
  | ((with_reducible refine' et_test ?e1); (case e1 => walk_at "ev"))
  | ((with_reducible refine' et_B ?e1); (case e1 => walk_at "ev"))
  | ((with_reducible refine' et_and ?e1 (fun hqq => ?e2)); (case e1 => walk_at "et"); (case e2 => walk_at "et"))
  | ((with_reducible refine' et_or ?e1 (fun hqq => ?e2)); (case e1 => walk_at "et"); (case e2 => walk_at "et"))
  | ((with_reducible refine' et_not ?e1); (case e1 => walk_at "et"))
  | fail "et")
local macro_rules | `(tactic| walk_at "nx") => `(tactic| ((try dsimp only); refine nx_of ?_))
local macro_rules | `(tactic| walk_at "xset") => `(tactic| (refine' x_set ?xe ?xk; (case xe => walk_at "ev")))
local macro_rules | `(tactic| walk_at "xasg") => `(tactic| (refine' x_asg ?xe ?xk; (case xe => walk_at "ev")))
local macro_rules | `(tactic| walk_at "xret") => `(tactic| (refine' x_ret ?xe ?xk; (case xe => walk_at "ev")))
local macro_rules | `(tactic| walk_at "xwhen") => `(tactic| (refine' x_when ?xe ?xk ?xl; (case xe => walk_at "et")))
local macro_rules | `(tactic| walk_at "xif") => `(tactic| (refine' x_if ?xe ?xk ?xl; (case xe => walk_at "et")))
local macro_rules | `(tactic| walk_at "xif2") => `(tactic| (refine' x_if2 ?xe ?xk ?xl; (case xe => walk_at "et")))
local macro_rules | `(tactic| walk_at "gsp") => `(tactic| first
  | exact sv_is_over (by assumption))
variable {c : Cn}
theorem ranged_deal {x y : Int} : ranged (.deal x y) = (decide (0 ≤ x ∧ x ≤ 3) && decide (0 ≤ y ∧ y ≤ 3)) := by
  show ((decide (0 ≤ x) && decide (x ≤ 3)) && (decide (0 ≤ y) && decide (y ≤ 3))) = _
  rw [Bool.eq_iff_iff]
  simp
theorem step_call {s : State} {p cc : Nat} (hp : p ≤ 3) (hc : cc ≤ 37) : Vbbrac.step s (.call (p : Nat) (cc : Nat)) = if s.on = false then (s, [-3]) else did s (keeping s (0, p, cc)) := by
  have h : ranged (.call (p : Nat) (cc : Nat)) = true := by
    show ((decide ((0 : Int) ≤ (p : Nat)) && decide ((p : Int) ≤ 3)) && (decide ((0 : Int) ≤ (cc : Nat)) && decide ((cc : Int) ≤ 37))) = true
    simp
    omega
  unfold Vbbrac.step
  rw [if_neg (by rw [h]; exact fun z => Bool.noConfusion z)]
  rfl
theorem step_dec {s : State} {y : Nat} (hy : y ≤ 1) : Vbbrac.step s (.decide (y : Nat)) = if s.on = false then (s, [-3]) else did s (keeping s (1, y, 0)) := by
  have h : ranged (.decide (y : Nat)) = true := by
    show (decide ((0 : Int) ≤ (y : Nat)) && decide ((y : Int) ≤ 1)) = true
    simp
    omega
  unfold Vbbrac.step
  rw [if_neg (by rw [h]; exact fun z => Bool.noConfusion z)]
  rfl
theorem step_undo {s : State} {k : Nat} (hk : k ≤ 400) : Vbbrac.step s (.undo (k : Nat)) = if s.on = false then (s, [-3]) else if s.deeds.length < k then (s, [-14]) else (replay (begun s.dealer s.vul) (s.deeds.take (s.deeds.length - k)), [0]) := by
  have h : ranged (.undo (k : Nat)) = true := by
    show (decide ((0 : Int) ≤ (k : Nat)) && decide ((k : Int) ≤ 400)) = true
    simp
    omega
  unfold Vbbrac.step
  rw [if_neg (by rw [h]; exact fun z => Bool.noConfusion z)]
  rfl
theorem did_err {s : State} {x : Vbbrac.Deed} {z : Int} (h : Vbbrac.does s x = .error z) : did s (keeping s x) = (s, [z]) := by
  unfold keeping
  rw [h]
  rfl
theorem did_full {s : State} {x : Vbbrac.Deed} {r : State × Nat} (h : Vbbrac.does s x = .ok r) (hd : 320 ≤ s.deeds.length) : did s (keeping s x) = (s, [-9]) := by
  unfold keeping
  rw [h]
  dsimp only
  rw [if_pos (show Vbbrac.DEEDS ≤ s.deeds.length from hd)]
  rfl
theorem keep_is {s : State} {x : Vbbrac.Deed} {r : State × Nat} (h : Vbbrac.does s x = .ok r) (hd : ¬ 320 ≤ s.deeds.length) : keeping s x = .ok ({ r.1 with deeds := s.deeds ++ [x] }, r.2) := by
  unfold keeping
  rw [h]
  dsimp only
  rw [if_neg (show ¬ Vbbrac.DEEDS ≤ s.deeds.length from hd)]
theorem did_ok {s : State} {x : Vbbrac.Deed} {r : State × Nat} (h : Vbbrac.does s x = .ok r) (hd : ¬ 320 ≤ s.deeds.length) : did s (keeping s x) = ({ r.1 with deeds := s.deeds ++ [x] }, [0, (r.2 : Int)]) := by
  rw [keep_is h hd]
  rfl
theorem el1 {σ : L2.St} {H : Hp} {x : Int} : EvL (tLst (tCons (tC (.int x)) tNil)) σ H ([x].map V.int) := el_lst (ea_cons ev_c ea_nil) (by show (1 : Nat) ≤ 100000; decide)

theorem pure_Session_init (Z : Zs c) (vs : List V) (H : Hp) (Q : VK) (E : XK) (h : sp_Session_init c vs H Q E) : t_Session_init c { nx := fun _ H' => Q .non H', rt := Q } (start ["self"] vs) H := by
  obtain ⟨p, dx, rfl, hp, k⟩ := h
  refine s_fld (y := .non) ev_c (ev_var rfl) hp Z.zS.cl (Z.zS.no _ (by simp)) (by decide) fun H1 e1 => ?_
  exact k _ upd_same ((Keep.of_ex e1).upd (List.mem_singleton.mpr rfl))
theorem pure_deal (Z : Zs c) (vs : List V) (H : Hp) (Q : VK) (E : XK) (h : sp_deal c vs H Q E) : t_deal c (sp_Table_init c) { nx := fun _ H' => Q .non H', rt := Q } (start ["session", "dealer", "vulnerability"] vs) H := by
  obtain ⟨as, F, s, x, y, rfl, S, k⟩ := h
  refine q_when (b := !ranged (.deal x y)) (et_is (et_or (a := !(decide (0 ≤ x) && decide (x ≤ 3))) (et_not (et_test (ev_chain ev_c (ev_var rfl) rv_I0 ev_c rv_I0))) fun _ => et_not (et_test (ev_chain ev_c (ev_var rfl) rv_I0 ev_c rv_I0))) (by rw [ranged_deal, Bool.eq_iff_iff]; simp)) (fun hb H1 e1 => ?_) (fun hb H1 e1 => ?_)
  · have hb : ranged (.deal x y) = false := by simpa using hb
    exact s_retL el1 fun p H2 hp e2 h2 => (k.same (step_bad hb) S) p H2 (fresh_back e1 hp) (e1.trans e2) h2
  have hb : ranged (.deal x y) = true := by simpa using hb
  have hst : Vbbrac.step s (.deal x y) = (begun x.toNat y.toNat, [0]) := by
    unfold Vbbrac.step
    rw [if_neg (by rw [hb]; exact fun z => Bool.noConfusion z)]
  rw [ranged_deal] at hb
  simp at hb
  obtain ⟨d, rfl⟩ := nat_of hb.1.1
  obtain ⟨w, rfl⟩ := nat_of hb.2.1
  unfold StepQ at k
  rw [hst, Int.toNat_natCast, Int.toNat_natCast] at k
  obtain ⟨dxs, v, F', hS, rfl, tf⟩ := S
  refine q_fldT Z (ea_cons (ev_var rfl) (ea_cons (ev_var rfl) ea_nil)) (ev_var rfl) (e1 _ _ hS) fun a A H2 T e2 ha hA => ?_
  obtain ⟨S2, k2, n2⟩ := sess_new (F := as :: F') (s' := begun d w) (H := H) List.mem_cons_self hS (e1.trans e2) T Run.nil (by omega) (by omega) (fresh_back e1 ha) fun x hx => fresh_back e1 (hA x hx)
  refine s_retL (el1 (x := 0)) fun p H3 hp e3 h3 => ?_
  refine k p H3 _ (S2.mono e3) h3 ?_ (k2.trans (Keep.of_ex e3)) n2
  by_cases q : p = as
  · exact .inl (by rw [q]; exact List.mem_cons_self)
  · rw [upd_ne q] at hp
    exact .inr (fresh_back (e1.trans e2) hp)
theorem pure_board (Z : Zs c) (vs : List V) (H : Hp) (Q : VK) (E : XK) (h : sp_board c vs H Q E) : t_board c (sp_Table_init c) { nx := fun _ H' => Q .non H', rt := Q } (start ["session", "number", "dealer", "vulnerability"] vs) H := by
  obtain ⟨as, F, s, x, rfl, S, k⟩ := h
  have er : ranged (.board x) = (decide (1 ≤ x) && decide (x ≤ 1000000000)) := rfl
  refine q_when (b := !ranged (.board x)) (et_is (et_not (et_test (ev_chain ev_c (ev_var rfl) rv_I0 ev_c rv_I0))) (by rw [er])) (fun hb H1 e1 => ?_) (fun hb H1 e1 => ?_)
  · have hb : ranged (.board x) = false := by simpa using hb
    exact s_retL el1 fun p H2 hp e2 h2 => (k.same (step_bad hb) S) p H2 (fresh_back e1 hp) (e1.trans e2) h2
  have hb : ranged (.board x) = true := by simpa using hb
  have hst : Vbbrac.step s (.board x) = (begun (Vbbrac.dealerOf x.toNat) (Vbbrac.vulOf x.toNat), [0, (Vbbrac.dealerOf x.toNat : Int), (Vbbrac.vulOf x.toNat : Int)]) := by
    unfold Vbbrac.step
    rw [if_neg (by rw [hb]; exact fun z => Bool.noConfusion z)]
    rfl
  unfold StepQ at k
  rw [hst] at k
  rw [er] at hb
  simp at hb
  obtain ⟨n, rfl⟩ := nat_of (x := x) (by omega)
  obtain ⟨dxs, v, F', hS, rfl, tf⟩ := S
  rw [Int.toNat_natCast] at k
  refine q_asg (v := .int (Vbbrac.dealerOf n : Nat)) (ev_is (ev_op (ev_op (ev_var rfl) ev_c rv_I0) ev_c (rv_I (by decide))) (by unfold Vbbrac.dealerOf; simp)) fun H2 e2 => ?_
  refine q_asg (v := .int (Vbbrac.vulOf n : Nat)) (ev_is (ev_op (ev_op (ev_var rfl) (ev_op (ev_op (ev_op (ev_var rfl) ev_c rv_I0) ev_c (rv_I ⟨by decide, by decide⟩)) ev_c (rv_I (by decide))) rv_I0) ev_c (rv_I (by decide))) (by unfold Vbbrac.vulOf Vbbrac.dealerOf; congr 1 <;> omega)) fun H3 e3 => ?_
  have e13 := (e1.trans e2).trans e3
  refine q_fldT Z (ea_cons (ev_var rfl) (ea_cons (ev_var rfl) ea_nil)) (ev_var rfl) (e13 _ _ hS) fun a A H4 T e4 ha hA => ?_
  obtain ⟨S2, k2, n2⟩ := sess_new (F := as :: F') (s' := begun (Vbbrac.dealerOf n) (Vbbrac.vulOf n)) (H := H) List.mem_cons_self hS (e13.trans e4) T Run.nil (by unfold Vbbrac.dealerOf; omega) (by unfold Vbbrac.vulOf; omega) (fresh_back e13 ha) fun x hx => fresh_back e13 (hA x hx)
  refine s_retL (xs := [.int 0, .int (Vbbrac.dealerOf n : Nat), .int (Vbbrac.vulOf n : Nat)]) (el_lst (ea_cons ev_c (ea_cons (ev_var rfl) (ea_cons (ev_var rfl) ea_nil))) (by show (3 : Nat) ≤ 100000; decide)) fun p H5 hp e5 h5 => ?_
  refine k p H5 _ (S2.mono e5) h5 ?_ (k2.trans (Keep.of_ex e5)) n2
  by_cases q : p = as
  · exact .inl (by rw [q]; exact List.mem_cons_self)
  · rw [upd_ne q] at hp
    exact .inr (fresh_back (e13.trans e4) hp)
theorem pure_call_at_table (Z : Zs c) (vs : List V) (H : Hp) (Q : VK) (E : XK) (h : sp_call_at_table c vs H Q E) : t_call_at_table c (sp_is_needed c) sp_is_over (sp_make_call c) (sp_must_pass c) (sp_remember c) { nx := fun _ H' => Q .non H', rt := Q } (start ["session", "seat", "call", "table"] vs) H := by
  obtain ⟨as, F, s, x, y, rfl, S, k⟩ := h
  have er : ranged (.call x y) = ((decide (0 ≤ x) && decide (x ≤ 3)) && (decide (0 ≤ y) && decide (y ≤ 37))) := rfl
  refine q_when (b := !ranged (.call x y)) (et_is (et_or (a := !(decide (0 ≤ x) && decide (x ≤ 3))) (et_not (et_test (ev_chain ev_c (ev_var rfl) rv_I0 ev_c rv_I0))) fun _ => et_not (et_test (ev_chain ev_c (ev_var rfl) rv_I0 ev_c rv_I0))) (by rw [er, Bool.eq_iff_iff]; simp; omega)) (fun hb H1 e1 => ?_) (fun hb H1 e1 => ?_)
  · have hb : ranged (.call x y) = false := by simpa using hb
    exact s_retL el1 fun p H2 hp e2 h2 => (k.same (step_bad hb) S) p H2 (fresh_back e1 hp) (e1.trans e2) h2
  have hb : ranged (.call x y) = true := by simpa using hb
  rw [er] at hb
  simp at hb
  obtain ⟨p, rfl⟩ := nat_of hb.1.1
  obtain ⟨cc, rfl⟩ := nat_of hb.2.1
  have hp : p ≤ 3 := by omega
  have hc : cc ≤ 37 := by omega
  have S0 := S
  have hst := step_call (s := s) hp hc
  obtain ⟨dxs, v, F', hS, rfl, tf⟩ := S
  refine q_asg (v := v) (ev_fld (ev_var rfl) (e1 _ _ hS) Z.zS.cl (Z.zS.no _ (by simp)) lk_table) fun H2 e2 => ?_
  have e12 := e1.trans e2
  rcases tf with ⟨off, rfl, rfl⟩ | ⟨d, w, a, A, R, hd, hw, rfl, rfl, T⟩
  · refine q_when (b := true) (et_test (ev_op (ev_var rfl) ev_c rv_isN0)) (fun _ H3 e3 => ?_) (fun hb H3 e3 => by cases hb)
    rw [if_pos off] at hst
    exact s_retL el1 fun p H4 hp e4 h4 => (k.same hst S0) p H4 (fresh_back (e12.trans e3) hp) ((e12.trans e3).trans e4) h4
  have I := R.inv
  rw [if_neg (by rw [I.on]; exact fun z => Bool.noConfusion z)] at hst
  have fin : ∀ {z : Int} {H3 : Hp} {σ : L2.St}, did s (keeping s (0, p, cc)) = (s, [z]) → Ex H H3 → tRet (tLst (tCons (tC (.int z)) tNil)) { nx := fun _ H' => Q .non H', rt := Q } σ H3 := fun {z H3 σ} hz e3 =>
    s_retL el1 fun p H4 hp e4 h4 => (k.same (hst.trans hz) S0) p H4 (fresh_back e3 hp) (e3.trans e4) h4
  have dc := does_call (s := s) I.core.good (p := p) hc
  refine q_when (b := false) (et_test (ev_op (ev_var rfl) ev_c rv_isNr)) (fun hb H3 e3 => by cases hb) (fun _ H3 e3 => ?_)
  have e3 := e12.trans e3
  have T3 := T.mono e3
  refine q_when (b := Vbbrac.over s.made) (et_B (ev_call (ea_cons (tv_made Z T3 (ev_var rfl)) ea_nil) (sv_is_over T3.made))) (fun hb H4 e4 => ?_) (fun hb H4 e4 => ?_)
  · rw [if_pos hb] at dc
    exact fin (did_err dc) (e3.trans e4)
  rw [if_neg (by rw [hb]; exact fun z => Bool.noConfusion z)] at dc
  have e4 := e3.trans e4
  have T4 := T.mono e4
  obtain ⟨wv, hwv, ew⟩ := tv_waiting Z T4
  refine q_when (b := s.waits.isSome) (et_is (et_test (ev_op (ew _ _ (ev_var rfl)) ev_c rv_notN)) ?_) (fun hb H5 e5 => ?_) (fun hb H5 e5 => ?_)
  · cases q : s.waits with
    | none =>
      rw [q] at hwv
      obtain rfl : wv = .non := hwv
      rfl
    | some z =>
      rw [q] at hwv
      obtain ⟨pp, rfl, _⟩ := hwv
      rfl
  · rw [if_pos hb] at dc
    exact fin (did_err dc) (e4.trans e5)
  rw [if_neg (by rw [hb]; exact fun z => Bool.noConfusion z)] at dc
  have e5 := e4.trans e5
  have T5 := T.mono e5
  refine q_when (b := decide (cc ≠ 0 ∧ (s.barred.contains p || s.once.contains p) = true)) (et_is (et_and (a := !decide (V.int (cc : Nat) = V.int 0)) (et_test (ev_op (ev_var rfl) ev_c (rv_ne rfl))) fun _ => et_B (ev_call (ea_cons (ev_var rfl) (ea_cons (ev_var rfl) ea_nil)) (RetSp.sv fun H6 e6 => ⟨a, A, s, _, p, rfl, T5.mono e6, hp, rfl⟩))) ?_) (fun hb H6 e6 => ?_) (fun hb H6 e6 => ?_)
  · rw [Bool.eq_iff_iff]
    simp
  · rw [if_pos (of_decide_eq_true hb)] at dc
    exact fin (did_err dc) (e5.trans e6)
  rw [if_neg (of_decide_eq_false hb)] at dc
  have e6 := e5.trans e6
  have T6 := T.mono e6
  refine q_when (b := !needed s p cc) (et_not (et_B (ev_call (ea_cons (ev_var rfl) (ea_cons (ev_var rfl) (ea_cons (ev_var rfl) ea_nil))) (RetSp.sv fun H7 e7 => ⟨a, A, s, _, p, cc, rfl, T6.mono e7, hc, rfl⟩)))) (fun hb H7 e7 => ?_) (fun hb H7 e7 => ?_)
  · rw [if_pos (by simpa using hb)] at dc
    exact fin (did_err dc) (e6.trans e7)
  rw [if_neg (by simpa using hb)] at dc
  have e7 := e6.trans e7
  have T7 := T.mono e7
  obtain ⟨ps, hps, pp⟩ := T7.past
  have pl : ps.length = s.deeds.length := pp.1.trans (hist_len s)
  refine q_when (b := decide (320 ≤ s.deeds.length)) (et_is (et_test (ev_op (ev_len (tv_past Z T7 (ev_var rfl)) (SqL.of hps)) ev_c rv_I0)) (by rw [pl, Bool.eq_iff_iff]; simp; omega)) (fun hb H8 e8 => ?_) (fun hb H8 e8 => ?_)
  · exact fin (did_full dc (of_decide_eq_true hb)) (e7.trans e8)
  have hdl := of_decide_eq_false hb
  have e8 := e7.trans e8
  have dk := did_ok dc hdl
  have kk := keep_is dc hdl
  obtain ⟨C2, S2⟩ := mk_core I.core hp hc
  refine q_ch (ea_cons (ev_var rfl) ea_nil) (T.mono e8) ⟨rfl, by rw [hist_len]; omega, rfl, rfl, rfl⟩ fun H9 A9 T9 k9 n9 => ?_
  refine s_ret02 (ev_ch (ea_cons (ev_var rfl) (ea_cons (ev_var rfl) (ea_cons (ev_var rfl) ea_nil))) T9 ⟨p, cc, rfl, hp, hc, by have := I.ml; omega, rfl, rfl, rfl⟩ fun H10 A10 T10 k10 n10 => ⟨by decide, fun q hq => ?_⟩)
  have hh := hist_step (x := (0, p, cc)) I S2
  have T10' : TabAt c H10 a A10 { (makeCall s p cc).1 with deeds := s.deeds ++ [(0, p, cc)] } (histOf { (makeCall s p cc).1 with deeds := s.deeds ++ [(0, p, cc)] }) := by
    rw [hh]
    exact T10.like rfl rfl rfl rfl rfl rfl rfl
  have k8 : Keep (a :: A.l) H H9 := (Keep.of_ex e8).trans k9
  have n8 : ∀ x ∈ A9.l, x ∈ A.l ∨ H x = none := fun x hx => (n9 x hx).imp id fun q => fresh_back e8 q
  have kf : Keep (a :: A.l) H H10 := k8.trans' k10 fun x hx => by
    rcases List.mem_cons.mp hx with r | r
    · exact .inl (by rw [r]; exact List.mem_cons_self)
    · exact (n8 x r).imp (fun q => List.mem_cons_of_mem _ q) id
  have nf : ∀ x ∈ A10.l, x ∈ A.l ∨ H x = none := fun x hx => by
    rcases n10 x hx with r | r
    · exact n8 x r
    · cases q : H x with
      | none => exact .inr rfl
      | some o =>
        by_cases z : x ∈ a :: A.l
        · rcases List.mem_cons.mp z with y | y
          · obtain ⟨w, m, hd, _⟩ := T9.tab
            rw [y, hd] at r
            cases r
          · exact .inl y
        · rw [k8 x o q z] at r
          cases r
  obtain ⟨SS, KK, NN⟩ := sess_of hS T T10' (R.step (.inl ⟨rfl, hp, hc⟩) kk) hd hw kf nf
  exact k.fin (hst.trans dk) SS KK NN hq

theorem chain_ch {H H8 H9 H10 : Hp} {a : Addr} {A A9 A10 : Ads} {s : State} {hs : List State} (e8 : Ex H H8) (T9 : TabAt c H9 a A9 s hs) (k9 : Keep (a :: A.l) H8 H9) (n9 : ∀ x ∈ A9.l, x ∈ A.l ∨ H8 x = none) (k10 : Keep (a :: A9.l) H9 H10) (n10 : ∀ x ∈ A10.l, x ∈ A9.l ∨ H9 x = none) :
    Keep (a :: A.l) H H10 ∧ ∀ x ∈ A10.l, x ∈ A.l ∨ H x = none := by
  have k8 : Keep (a :: A.l) H H9 := (Keep.of_ex e8).trans k9
  have n8 : ∀ x ∈ A9.l, x ∈ A.l ∨ H x = none := fun x hx => (n9 x hx).imp id fun q => fresh_back e8 q
  refine ⟨k8.trans' k10 fun x hx => ?_, fun x hx => ?_⟩
  · rcases List.mem_cons.mp hx with r | r
    · exact .inl (by rw [r]; exact List.mem_cons_self)
    · exact (n8 x r).imp (fun q => List.mem_cons_of_mem _ q) id
  · rcases n10 x hx with r | r
    · exact n8 x r
    · cases q : H x with
      | none => exact .inr rfl
      | some o =>
        by_cases z : x ∈ a :: A.l
        · rcases List.mem_cons.mp z with y | y
          · obtain ⟨w, m, hd, _⟩ := T9.tab
            rw [y, hd] at r
            cases r
          · exact .inl y
        · rw [k8 x o q z] at r
          cases r
theorem pure_decide (Z : Zs c) (vs : List V) (H : Hp) (Q : VK) (E : XK) (h : sp_decide c vs H Q E) : t_decide c (sp_decide_waiting c) (sp_remember c) { nx := fun _ H' => Q .non H', rt := Q } (start ["session", "answer", "table"] vs) H := by
  obtain ⟨as, F, s, x, rfl, S, k⟩ := h
  have er : ranged (.decide x) = (decide (0 ≤ x) && decide (x ≤ 1)) := rfl
  refine q_when (b := !ranged (.decide x)) (et_is (et_not (et_test (ev_chain ev_c (ev_var rfl) rv_I0 ev_c rv_I0))) (by rw [er])) (fun hb H1 e1 => ?_) (fun hb H1 e1 => ?_)
  · have hb : ranged (.decide x) = false := by simpa using hb
    exact s_retL el1 fun p H2 hp e2 h2 => (k.same (step_bad hb) S) p H2 (fresh_back e1 hp) (e1.trans e2) h2
  have hb : ranged (.decide x) = true := by simpa using hb
  rw [er] at hb
  simp at hb
  obtain ⟨y, rfl⟩ := nat_of hb.1
  have hy : y ≤ 1 := by omega
  have S0 := S
  have hst := step_dec (s := s) hy
  obtain ⟨dxs, v, F', hS, rfl, tf⟩ := S
  refine q_asg (v := v) (ev_fld (ev_var rfl) (e1 _ _ hS) Z.zS.cl (Z.zS.no _ (by simp)) lk_table) fun H2 e2 => ?_
  have e12 := e1.trans e2
  rcases tf with ⟨off, rfl, rfl⟩ | ⟨d, w, a, A, R, hd, hw, rfl, rfl, T⟩
  · refine q_when (b := true) (et_test (ev_op (ev_var rfl) ev_c rv_isN0)) (fun _ H3 e3 => ?_) (fun hb H3 e3 => by cases hb)
    rw [if_pos off] at hst
    exact s_retL el1 fun p H4 hp e4 h4 => (k.same hst S0) p H4 (fresh_back (e12.trans e3) hp) ((e12.trans e3).trans e4) h4
  have I := R.inv
  rw [if_neg (by rw [I.on]; exact fun z => Bool.noConfusion z)] at hst
  have fin : ∀ {z : Int} {H3 : Hp} {σ : L2.St}, did s (keeping s (1, y, 0)) = (s, [z]) → Ex H H3 → tRet (tLst (tCons (tC (.int z)) tNil)) { nx := fun _ H' => Q .non H', rt := Q } σ H3 := fun {z H3 σ} hz e3 =>
    s_retL el1 fun p H4 hp e4 h4 => (k.same (hst.trans hz) S0) p H4 (fresh_back e3 hp) (e3.trans e4) h4
  have dc := does_dec (s := s) hy
  refine q_when (b := false) (et_test (ev_op (ev_var rfl) ev_c rv_isNr)) (fun hb H3 e3 => by cases hb) (fun _ H4 e4 => ?_)
  have e4 := e12.trans e4
  have T4 := T.mono e4
  obtain ⟨wv, hwv, ew⟩ := tv_waiting Z T4
  refine q_when (b := decide (s.waits = none)) (et_is (et_test (ev_op (ew _ _ (ev_var rfl)) ev_c rv_isN)) ?_) (fun hb H5 e5 => ?_) (fun hb H5 e5 => ?_)
  · cases q : s.waits with
    | none =>
      rw [q] at hwv
      obtain rfl : wv = .non := hwv
      rfl
    | some z =>
      rw [q] at hwv
      obtain ⟨pp, rfl, _⟩ := hwv
      rfl
  · rw [if_pos (of_decide_eq_true hb)] at dc
    exact fin (did_err dc) (e4.trans e5)
  rw [if_neg (of_decide_eq_false hb)] at dc
  have hwn := of_decide_eq_false hb
  have e7 := e4.trans e5
  have T7 := T.mono e7
  obtain ⟨ps, hps, pp⟩ := T7.past
  have pl : ps.length = s.deeds.length := pp.1.trans (hist_len s)
  refine q_when (b := decide (320 ≤ s.deeds.length)) (et_is (et_test (ev_op (ev_len (tv_past Z T7 (ev_var rfl)) (SqL.of hps)) ev_c rv_I0)) (by rw [pl, Bool.eq_iff_iff]; simp; omega)) (fun hb H8 e8 => ?_) (fun hb H8 e8 => ?_)
  · exact fin (did_full dc (of_decide_eq_true hb)) (e7.trans e8)
  have hdl := of_decide_eq_false hb
  have e8 := e7.trans e8
  have dk := did_ok dc hdl
  have kk := keep_is dc hdl
  obtain ⟨C2, S2⟩ := dc_core I.core (decide (y = 1))
  obtain ⟨kd, seat, cc, hws⟩ : ∃ kd seat cc, s.waits = some (kd, seat, cc) := by
    cases q : s.waits with
    | none => exact absurd q hwn
    | some z => exact ⟨_, _, _, rfl⟩
  obtain ⟨w1, w2, w3, w4⟩ := I.core.wt _ hws
  refine q_ch (ea_cons (ev_var rfl) ea_nil) (T.mono e8) ⟨rfl, by rw [hist_len]; omega, rfl, rfl, rfl⟩ fun H9 A9 T9 k9 n9 => ?_
  refine s_ret02 (ev_ch (ea_cons (ev_var rfl) (ea_cons (ev_is (w := .bl (decide (y = 1))) (ev_op (ev_var rfl) ev_c (rv_eq rfl)) (by congr 1; rw [Bool.eq_iff_iff]; simp; omega)) ea_nil)) T9 ⟨decide (y = 1), kd, seat, cc, rfl, hws, w1, w3, by have := I.ml; omega, rfl, rfl, rfl⟩ fun H10 A10 T10 k10 n10 => ⟨by decide, fun q hq => ?_⟩)
  have hh := hist_step (x := (1, y, 0)) I S2
  have T10' : TabAt c H10 a A10 { (decided s (decide (y = 1))).1 with deeds := s.deeds ++ [(1, y, 0)] } (histOf { (decided s (decide (y = 1))).1 with deeds := s.deeds ++ [(1, y, 0)] }) := by
    rw [hh]
    exact T10.like rfl rfl rfl rfl rfl rfl rfl
  obtain ⟨kf, nf⟩ := chain_ch e8 T9 k9 n9 k10 n10
  obtain ⟨SS, KK, NN⟩ := sess_of hS T T10' (R.step (.inr ⟨rfl, hy, rfl⟩) kk) hd hw kf nf
  exact k.fin (hst.trans dk) SS KK NN hq
theorem pure_undo (Z : Zs c) (vs : List V) (H : Hp) (Q : VK) (E : XK) (h : sp_undo c vs H Q E) : t_undo c (sp_go_back c) { nx := fun _ H' => Q .non H', rt := Q } (start ["session", "count", "table"] vs) H := by
  obtain ⟨as, F, s, x, rfl, S, k⟩ := h
  have er : ranged (.undo x) = (decide (0 ≤ x) && decide (x ≤ 400)) := rfl
  refine q_when (b := !ranged (.undo x)) (et_is (et_not (et_test (ev_chain ev_c (ev_var rfl) rv_I0 ev_c rv_I0))) (by rw [er])) (fun hb H1 e1 => ?_) (fun hb H1 e1 => ?_)
  · have hb : ranged (.undo x) = false := by simpa using hb
    exact s_retL el1 fun p H2 hp e2 h2 => (k.same (step_bad hb) S) p H2 (fresh_back e1 hp) (e1.trans e2) h2
  have hb : ranged (.undo x) = true := by simpa using hb
  rw [er] at hb
  simp at hb
  obtain ⟨n, rfl⟩ := nat_of hb.1
  have hn : n ≤ 400 := by omega
  have S0 := S
  have hst := step_undo (s := s) hn
  obtain ⟨dxs, v, F', hS, rfl, tf⟩ := S
  refine q_asg (v := v) (ev_fld (ev_var rfl) (e1 _ _ hS) Z.zS.cl (Z.zS.no _ (by simp)) lk_table) fun H2 e2 => ?_
  have e12 := e1.trans e2
  rcases tf with ⟨off, rfl, rfl⟩ | ⟨d, w, a, A, R, hd, hw, rfl, rfl, T⟩
  · refine q_when (b := true) (et_test (ev_op (ev_var rfl) ev_c rv_isN0)) (fun _ H3 e3 => ?_) (fun hb H3 e3 => by cases hb)
    rw [if_pos off] at hst
    exact s_retL el1 fun p H4 hp e4 h4 => (k.same hst S0) p H4 (fresh_back (e12.trans e3) hp) ((e12.trans e3).trans e4) h4
  have I := R.inv
  rw [if_neg (by rw [I.on]; exact fun z => Bool.noConfusion z)] at hst
  refine q_when (b := false) (et_test (ev_op (ev_var rfl) ev_c rv_isNr)) (fun hb H3 e3 => by cases hb) (fun _ H4 e4 => ?_)
  have e4 := e12.trans e4
  have T4 := T.mono e4
  obtain ⟨ps, hps, pp⟩ := T4.past
  have pl : ps.length = s.deeds.length := pp.1.trans (hist_len s)
  refine q_when (b := decide (s.deeds.length < n)) (et_is (et_test (ev_op (ev_len (tv_past Z T4 (ev_var rfl)) (SqL.of hps)) (ev_var rfl) rv_I0)) (by rw [pl, Bool.eq_iff_iff]; simp)) (fun hb H5 e5 => ?_) (fun hb H5 e5 => ?_)
  · rw [if_pos (of_decide_eq_true hb)] at hst
    exact s_retL el1 fun p H6 hp e6 h6 => (k.same hst S0) p H6 (fresh_back (e4.trans e5) hp) ((e4.trans e5).trans e6) h6
  have hnl := of_decide_eq_false hb
  rw [if_neg hnl] at hst
  have e5 := e4.trans e5
  have hi : s.deeds.length - n ≤ s.deeds.length := Nat.sub_le _ _
  obtain ⟨b1, b2, b3, b4⟩ := back_is I hi
  obtain ⟨R2, r2, r3⟩ := I.rp _ hi
  rw [I.dl, I.vl] at hst
  have hdn := I.dn
  have hml := I.ml
  have fin : ∀ H6 A6, TabAt c H6 a A6 (replay (begun d w) (s.deeds.take (s.deeds.length - n))) (histOf (replay (begun d w) (s.deeds.take (s.deeds.length - n)))) → Keep (a :: A.l) H H6 → (∀ x ∈ A6.l, x ∈ A.l ∨ H x = none) →
      tRet (tLst (tCons (tC (.int 0)) tNil)) { nx := fun _ H' => Q .non H', rt := Q } [some (.ref as), some (.int (n : Nat)), some (.ref a)] H6 := fun H6 A6 T6 k6 n6 => by
    obtain ⟨SS, KK, NN⟩ := sess_of hS T T6 R2 hd hw k6 n6
    unfold StepQ at k
    rw [hst] at k
    refine s_retL (el1 (x := 0)) fun p H7 hp e7 h7 => k p H7 _ (SS.mono e7) h7 ?_ (KK.trans (Keep.of_ex e7)) NN
    by_cases q : p ∈ as :: a :: A.l
    · exact .inl q
    · right
      cases z : H p with
      | none => rfl
      | some o =>
        rw [KK p o z q] at hp
        cases hp
  by_cases hn0 : n = 0
  · subst hn0
    refine q_ch (s' := s) (hs' := histOf s) (z := .non) (ea_cons (ev_var rfl) (ea_cons (ev_var rfl) ea_nil)) (T.mono e5) ⟨0, rfl, Nat.zero_le _, by rw [hist_len]; omega, by omega, rfl, .inl ⟨rfl, rfl, rfl⟩⟩ fun H6 A6 T6 k6 n6 => ?_
    refine fin H6 A6 ?_ ((Keep.of_ex e5).trans k6) fun x hx => (n6 x hx).imp id fun q => fresh_back e5 q
    have et : replay (begun d w) (s.deeds.take (s.deeds.length - 0)) = s := by
      rw [Nat.sub_zero, List.take_length]
      exact I.rs
    rw [et]
    exact T6
  · have hlt : s.deeds.length - n < s.deeds.length := by omega
    refine q_ch (z := .non) (ea_cons (ev_var rfl) (ea_cons (ev_var rfl) ea_nil)) (T.mono e5) ⟨n, rfl, by rw [hist_len]; omega, by rw [hist_len]; omega, by omega, rfl, .inr ⟨_, by rw [hist_len]; exact hist_get hlt, by omega, rfl, rfl⟩⟩ fun H6 A6 T6 k6 n6 => ?_
    refine fin H6 A6 ?_ ((Keep.of_ex e5).trans k6) fun x hx => (n6 x hx).imp id fun q => fresh_back e5 q
    rw [hist_len, I.dl, I.vl, ← b4] at T6
    exact T6.like b2 b3 b1.symm rfl rfl rfl rfl
theorem q_forW {σ : L2.St} {H : Hp} {ta : TA} {g : TG} {tb tz : TS} {D : Ends} {b : Addr} {t : List Nat} (h : EvA ta σ H [.ref b]) (hs : SqL c.K H b (nV t)) (hl : t.length ≤ 5000)
    (k : ∀ (p : Addr) (as : List Addr) (H1 : Hp), Ex H H1 → H p = none → H1 p = some (.lst (as.map V.ref)) → as.length = (if t = [] then [] else Vbbrac.cut t).length → (∀ (i : Nat) b w, as[i]? = some b → (if t = [] then [] else Vbbrac.cut t)[i]? = some w → H1 b = some (.lst (nV w))) → (∀ b ∈ as, H b = none) →
      ∃ Pv : Nat → L2.St → Hp → Prop, Pv 0 σ H1 ∧ (∀ i σ' H', i ≤ as.length → Pv i σ' H' → SqL c.K H' p (as.map V.ref)) ∧ (∀ i x σ' H', (as.map V.ref)[i]? = some x → Pv i σ' H' → g x σ' H' fun σ2 H2 => tb { D with nx := Pv (i + 1), ct := Pv (i + 1), bk := tz D } σ2 H2) ∧ ∀ σ' H', Pv as.length σ' H' → tz D σ' H') :
    tSeq (tFor (iList c.K (tCall (sp_words_of c) [] E0 ta)) g tb) tz D σ H :=
  h H (Ex.refl H) _ fun H1 e1 => ⟨b, t, rfl, ex_l e1 hs, hl, fun p H2 e2 hp ⟨as, w1, w2, w3, w4⟩ => ⟨p, rfl, ⟨_, SqL.of w1⟩,
    let ⟨Pv, q0, q1, q2, q3⟩ := k p as H2 (e1.trans e2) (fresh_back e1 hp) w1 w2 w3 fun b hb => fresh_back e1 (w4 b hb)
    for_list (D := { D with nx := tz D }) (xs := as.map V.ref) Pv q0 (fun i σ' H' hi hp => q1 i σ' H' (by rw [List.length_map] at hi; exact hi) hp) q2 fun σ' H' hp => q3 σ' H' (by rw [List.length_map] at hp; exact hp)⟩⟩
theorem pure_looked_at (vs : List V) (H : Hp) (Q : VK) (E : XK) (h : sp_looked_at c vs H Q E) : t_looked_at c (sp_call_of_word c) sp_is_legal sp_is_over sp_seat_on_turn (sp_words_of c) { nx := fun _ H' => Q .non H', rt := Q } (start ["dealer", "numbers", "made", "place", "word", "call", "seat"] vs) H := by
  obtain ⟨d, b, t, rfl, hd, hs, hl, k⟩ := h
  refine q_asgL (xs := []) (el_lst ea_nil (by decide)) fun am H1 ham e1 h1 => ?_
  refine q_asg (v := .int (0 : Nat)) ev_c fun H2 e2 => ?_
  have e12 := e1.trans e2
  generalize hws : (if t = [] then [] else Vbbrac.cut t) = ws
  have hrt : Vbbrac.readText d t = Vbbrac.readWords d [] 0 ws := by
    unfold Vbbrac.readText
    rw [← hws]
    cases t with
    | nil => rfl
    | cons x r => rfl
  refine q_forW (t := t) (ea_cons (ev_var rfl) ea_nil) (ex_l e12 hs) (by omega) fun p as H3 e3 hp h3 hlen hws2 hfr => ?_
  rw [hws] at hlen hws2
  have npam : p ≠ am := fun z => by rw [z, e2 _ _ h1] at hp; cases hp
  refine ⟨fun i σ' H' => ∃ (m : Mds) (mv : List V) (pl : Nat) (y4 y5 y6 : Option V), σ' = [some (.int (d : Nat)), some (.ref b), some (.ref am), some (.int (pl : Nat)), y4, y5, y6] ∧ Ex H H' ∧ H' am = some (.lst mv) ∧ PairsAt H' mv m ∧ Leg d m ∧ Vbbrac.readText d t = Vbbrac.readWords d m pl (ws.drop i) ∧ H' p = some (.lst (as.map V.ref)) ∧ (∀ j b w, i ≤ j → as[j]? = some b → ws[j]? = some w → H' b = some (.lst (nV w))), ?_, ?_, ?_, ?_⟩
  · exact ⟨[], [], 0, none, none, none, rfl, e12.trans e3, e3 _ _ (e2 _ _ h1), PairsAt.nil, Leg.nil hd, by rw [List.drop_zero]; exact hrt, h3, fun j b w _ => hws2 j b w⟩
  · rintro i σ' H' hi ⟨m, mv, pl, y4, y5, y6, rfl, e, q1, q2, q3, q4, q5, q6⟩
    exact SqL.of q5
  · rintro i x σ' H' hx ⟨m, mv, pl, y4, y5, y6, rfl, e, q1, q2, q3, q4, q5, q6⟩
    rw [List.getElem?_map] at hx
    obtain ⟨bw, hbw, rfl⟩ : ∃ bw, as[i]? = some bw ∧ x = .ref bw := by
      cases z : as[i]? with
      | none => rw [z] at hx; cases hx
      | some bw => rw [z] at hx; exact ⟨bw, rfl, (Option.some.inj hx).symm⟩
    have hi : i < ws.length := by rw [← hlen]; exact (List.getElem?_eq_some_iff.mp hbw).1
    have hwi : ws[i]? = some ws[i] := List.getElem?_eq_getElem hi
    have hb' := q6 i bw _ (Nat.le_refl _) hbw hwi
    generalize ws[i] = wd at hwi hb'
    rw [List.drop_eq_getElem_cons hi, (List.getElem?_eq_some_iff.mp hwi).2] at q4
    unfold Vbbrac.readWords at q4
    have M : MadeAt H' am m := ⟨mv, q1, q2⟩
    have L := q3.len
    show tSeq _ _ _ [some (.int (d : Nat)), some (.ref b), some (.ref am), some (.int (pl : Nat)), some (.ref bw), y5, y6] H'
    refine q_asg (ev_call (ea_cons (ev_var rfl) ea_nil) (sv_call_of_word (SqL.of hb'))) fun H4 e4 => ?_
    cases hc : Vbbrac.callOfText wd with
    | none =>
      rw [hc] at q4
      refine q_when (b := true) (et_test (ev_op (ev_var rfl) ev_c rv_isN0)) (fun _ H5 e5 => ?_) (fun hb H5 e5 => by cases hb)
      have e45 := e4.trans e5
      refine s_retU (xs := [.int 1, .int (pl : Nat), .ref am]) (eu_tup (by walk_at "ea") (by show (3 : Nat) ≤ 100000; decide)) fun p2 H6 _ e6 h6 => ?_
      refine k p2 am m H6 (e.trans (e45.trans e6)) ham (M.mono (e45.trans e6)) (fun m' hm' => by rw [q4] at hm'; cases hm') ?_
      rw [q4]
      exact h6
    | some cc =>
      rw [hc] at q4
      dsimp only at q4
      have hc37 : cc ≤ 37 := by have := (callOf_some hc).1; omega
      refine q_when (b := false) (et_test (ev_op (ev_var (v := .int (cc : Nat)) rfl) ev_c rv_isNi)) (fun hb H5 e5 => by cases hb) (fun _ H5 e5 => ?_)
      have e5 := e4.trans e5
      have M5 := M.mono e5
      refine q_when (b := Vbbrac.over m) (et_B (ev_call (ea_cons (ev_var rfl) ea_nil) (sv_is_over M5))) (fun hb H6 e6 => ?_) (fun hb H6 e6 => ?_)
      · rw [if_pos hb] at q4
        have e56 := e5.trans e6
        refine s_retU (xs := [.int 3, .int (pl : Nat), .ref am]) (eu_tup (by walk_at "ea") (by show (3 : Nat) ≤ 100000; decide)) fun p2 H7 _ e7 h7 => ?_
        refine k p2 am m H7 (e.trans (e56.trans e7)) ham (M.mono (e56.trans e7)) (fun m' hm' => by rw [q4] at hm'; cases hm') ?_
        rw [q4]
        exact h7
      rw [if_neg (by rw [hb]; exact fun z => Bool.noConfusion z)] at q4
      have e6 := e5.trans e6
      have M6 := M.mono e6
      refine q_asg (ev_call (ea_cons (ev_var rfl) (ea_cons (ev_var rfl) ea_nil)) (sv_seat_on_turn (d := d) M6)) fun H7 e7 => ?_
      have e7 := e6.trans e7
      have M7 := M.mono e7
      refine q_when (b := !Vbbrac.legal m (Vbbrac.turn d m) cc) (et_not (et_B (ev_call (ea_cons (ev_var rfl) (ea_cons (ev_var rfl) (ea_cons (ev_var rfl) ea_nil))) (sv_is_legal M7 hc37)))) (fun hb H8 e8 => ?_) (fun hb H8 e8 => ?_)
      · have hb : Vbbrac.legal m (Vbbrac.turn d m) cc = false := by simpa using hb
        rw [if_pos hb] at q4
        have e78 := e7.trans e8
        refine s_retU (xs := [.int 2, .int (pl : Nat), .ref am]) (eu_tup (by walk_at "ea") (by show (3 : Nat) ≤ 100000; decide)) fun p2 H9 _ e9 h9 => ?_
        refine k p2 am m H9 (e.trans (e78.trans e9)) ham (M.mono (e78.trans e9)) (fun m' hm' => by rw [q4] at hm'; cases hm') ?_
        rw [q4]
        exact h9
      have hb : Vbbrac.legal m (Vbbrac.turn d m) cc = true := by simpa using hb
      rw [if_neg (by rw [hb]; exact fun z => Bool.noConfusion z)] at q4
      have e8 := e7.trans e8
      refine q_appU (e8 _ _ q1) (ev_var rfl) (eu_tup (vs := [.int (Vbbrac.turn d m : Nat), .int (cc : Nat)]) (ea_cons (ev_var rfl) (ea_cons (ev_var rfl) ea_nil)) (by show (2 : Nat) ≤ 100000; decide)) (by rw [q2.1]; omega) fun pr H9 _ e9 h9 => ?_
      have e9' := e8.trans e9
      have nbam : bw ≠ am := fun z => by
        have := hfr bw (List.mem_of_getElem? hbw)
        rw [z, e2 _ _ h1] at this
        cases this
      have kt := tup_upd (o := .lst (mv ++ [V.ref pr])) (lst_ne_tup (e9' _ _ q1))
      have hbU : upd H9 am (.lst (mv ++ [V.ref pr])) bw = some (.lst (nV wd)) := by rw [upd_ne nbam]; exact e9' _ _ hb'
      refine s_asg (v := .int (pl + wd.length + 1 : Nat)) (ev_is (ev_op (ev_op (ev_var rfl) (ev_len (ev_var rfl) (SqL.of hbU)) rv_I0) ev_c rv_I0) (by rw [nV_len]; simp)) fun H10 e10 => ?_
      refine ⟨m ++ [(Vbbrac.turn d m, cc)], mv ++ [V.ref pr], pl + wd.length + 1, _, _, _, rfl, ((e.trans e9').mut ham).trans e10, e10 _ _ upd_same, ?_, q3.snoc hd hb, q4, e10 _ _ ?_, fun j b2 w2 hj hb2 hw2 => e10 _ _ ?_⟩
      · exact (((q2.mono e9').keep kt).snoc (x := (Vbbrac.turn d m, cc)) (kt _ _ h9)).mono e10
      · rw [upd_ne npam]
        exact e9' _ _ q5
      · have n2 : b2 ≠ am := fun z => by
          have := hfr b2 (List.mem_of_getElem? hb2)
          rw [z, e2 _ _ h1] at this
          cases this
        rw [upd_ne n2]
        exact e9' _ _ (q6 j b2 w2 (by omega) hb2 hw2)
  · rintro σ' H' ⟨m, mv, pl, y4, y5, y6, rfl, e, q1, q2, q3, q4, q5, q6⟩
    rw [List.drop_eq_nil_of_le (by rw [hlen]; exact Nat.le_refl _)] at q4
    refine s_retU (xs := [.int 0, .int (m.length : Nat), .ref am]) (eu_tup (ea_cons ev_c (ea_cons (ev_is (ev_len (ev_var rfl) (SqL.of q1)) (by rw [q2.1])) (ea_cons (ev_var rfl) ea_nil))) (by show (3 : Nat) ≤ 100000; decide)) fun p2 H6 _ e6 h6 => ?_
    refine k p2 am m H6 (e.trans e6) ham ⟨mv, e6 _ _ q1, q2.mono e6⟩ (fun m' hm' => by rw [q4] at hm'; exact Except.ok.inj hm') ?_
    rw [q4]
    exact h6

theorem bytes_nV : ∀ {t : List Int}, Vbbrac.isBytes t = true → t.map V.int = nV (Vbbrac.nats t)
  | [], _ => rfl
  | x :: r, h => by
    have h2 : Vbbrac.inside 0 255 x = true ∧ Vbbrac.isBytes r = true := by
      unfold Vbbrac.isBytes at h
      rw [List.all_cons, Bool.and_eq_true] at h
      exact h
    have hx : 0 ≤ x := by
      have := h2.1
      unfold Vbbrac.inside at this
      simp at this
      exact this.1
    show V.int x :: r.map V.int = V.int ((x.toNat : Nat) : Int) :: nV (Vbbrac.nats r)
    rw [bytes_nV h2.2, Int.toNat_of_nonneg hx]
theorem nats_len (t : List Int) : (Vbbrac.nats t).length = t.length := List.length_map ..
theorem word_kind {d : Nat} : ∀ (ws : List (List Nat)) (m : Mds) (p : Nat) (x : Nat × Nat), Vbbrac.readWords d m p ws = .error x → x.1 ≠ 0
  | [], _, _, _, h => by cases h
  | w :: r, m, p, x, h => by
    unfold Vbbrac.readWords at h
    cases hc : Vbbrac.callOfText w with
    | none =>
      rw [hc] at h
      cases h
      exact fun z => by cases z
    | some cc =>
      rw [hc] at h
      dsimp only at h
      split at h
      · cases h
        exact fun z => by cases z
      · split at h
        · cases h
          exact fun z => by cases z
        · exact word_kind r _ _ x h
theorem text_kind {d : Nat} {t : List Nat} {x : Nat × Nat} (h : Vbbrac.readText d t = .error x) : x.1 ≠ 0 := by
  unfold Vbbrac.readText at h
  split at h
  · cases h
  · exact word_kind _ _ _ _ h
theorem pure_look (vs : List V) (H : Hp) (Q : VK) (E : XK) (h : sp_look c vs H Q E) : t_look c (sp_are_bytes c) (sp_looked_at c) { nx := fun _ H' => Q .non H', rt := Q } (start ["dealer", "numbers", "kind", "place", "made"] vs) H := by
  obtain ⟨s, d, b, t, rfl, hs, hl, k⟩ := h
  have er : ranged (.look d t) = ((decide (0 ≤ d) && decide (d ≤ 3)) && Vbbrac.isBytes t) := rfl
  refine q_when (b := !ranged (.look d t)) (et_is (et_or (a := !(decide (0 ≤ d) && decide (d ≤ 3))) (et_not (et_test (ev_chain ev_c (ev_var rfl) rv_I0 ev_c rv_I0))) fun _ => et_not (et_B (ev_call (ea_cons (ev_var rfl) ea_nil) (sv_are_bytes hs (by omega))))) (by rw [er]; simp only [Bool.not_and, Bool.or_assoc])) (fun hb H1 e1 => ?_) (fun hb H1 e1 => ?_)
  · have hb : ranged (.look d t) = false := by simpa using hb
    rw [step_bad hb] at k
    exact s_retL el1 fun p H2 hp e2 h2 => k p H2 (fresh_back e1 hp) (e1.trans e2) h2
  have hb : ranged (.look d t) = true := by simpa using hb
  have hst : Vbbrac.step s (.look d t) = (s, match Vbbrac.readText d.toNat (Vbbrac.nats t) with
    | .error e => Vbbrac.ok [e.1, e.2]
    | .ok m => Vbbrac.ok [0, m.length]) := by
    unfold Vbbrac.step
    rw [if_neg (by rw [hb]; exact fun z => Bool.noConfusion z)]
    rfl
  rw [er] at hb
  simp at hb
  obtain ⟨n, rfl⟩ := nat_of hb.1.1
  rw [hst, Int.toNat_natCast] at k
  rw [bytes_nV hb.2] at hs
  refine q_asgC (ea_cons (ev_var rfl) (ea_cons (ev_var rfl) ea_nil)) fun H2 e2 E2 => ⟨n, b, Vbbrac.nats t, rfl, by omega, ex_l (e1.trans e2) hs, by rw [nats_len]; exact hl, fun p am m H3 e3 ham M hm hp => ?_⟩
  refine ⟨p, _, rfl, SqT.of hp, rfl, _, _, rfl, _, _, rfl, _, _, rfl, rfl, ?_⟩
  have e := (e1.trans e2).trans e3
  refine s_retL (xs := [.int 0, .int ((lookN (Vbbrac.readText n (Vbbrac.nats t)) m).1 : Nat), .int ((lookN (Vbbrac.readText n (Vbbrac.nats t)) m).2 : Nat)]) (el_lst (ea_cons ev_c (ea_cons (ev_var rfl) (ea_cons (ev_var rfl) ea_nil))) (by show (3 : Nat) ≤ 100000; decide)) fun p2 H4 hp2 e4 h4 => k p2 H4 (fresh_back e hp2) (e.trans e4) ?_
  rw [h4]
  cases q : Vbbrac.readText n (Vbbrac.nats t) with
  | error x => rfl
  | ok m' =>
    rw [hm m' q]
    rfl
theorem read_next {d v : Nat} {m : Mds} {x : Nat × Nat} (R : Run d v (readState d v m)) : histOf (readState d v (m ++ [x])) = histOf (readState d v m) ++ [readState d v m] := by
  have e : readState d v (m ++ [x]) = { Vbbrac.stands (readState d v m) x.1 x.2 with deeds := (readState d v m).deeds ++ [(0, x.1, x.2)] } := by
    unfold readState readDeeds
    rw [List.map_append]
    rfl
  rw [e]
  exact hist_step R.inv ⟨rfl, rfl, rfl, rfl, .inr ⟨x, rfl⟩⟩
theorem pure_read_auction (Z : Zs c) (vs : List V) (H : Hp) (Q : VK) (E : XK) (h : sp_read_auction c vs H Q E) : t_read_auction c (sp_are_bytes c) (sp_let_stand c) (sp_looked_at c) (sp_remember c) (sp_Table_init c) { nx := fun _ H' => Q .non H', rt := Q } (start ["session", "dealer", "vulnerability", "numbers", "kind", "place", "made", "table", "seat", "call"] vs) H := by
  obtain ⟨as, F, s, d, v, b, t, rfl, S, hs, hl, k⟩ := h
  have er : ranged (.read d v t) = ((decide (0 ≤ d) && decide (d ≤ 3)) && ((decide (0 ≤ v) && decide (v ≤ 3)) && Vbbrac.isBytes t)) := rfl
  refine q_when (b := !ranged (.read d v t)) (et_is (et_or (a := !(decide (0 ≤ d) && decide (d ≤ 3))) (et_not (et_test (ev_chain ev_c (ev_var rfl) rv_I0 ev_c rv_I0))) fun _ => et_or (a := !(decide (0 ≤ v) && decide (v ≤ 3))) (et_not (et_test (ev_chain ev_c (ev_var rfl) rv_I0 ev_c rv_I0))) fun _ => et_not (et_B (ev_call (ea_cons (ev_var rfl) ea_nil) (sv_are_bytes hs (by omega))))) (by rw [er]; simp only [Bool.not_and, Bool.or_assoc])) (fun hb H1 e1 => ?_) (fun hb H1 e1 => ?_)
  · have hb : ranged (.read d v t) = false := by simpa using hb
    exact s_retL el1 fun p H2 hp e2 h2 => (k.same (step_bad hb) S) p H2 (fresh_back e1 hp) (e1.trans e2) h2
  have hb : ranged (.read d v t) = true := by simpa using hb
  have hst : Vbbrac.step s (.read d v t) = (match Vbbrac.readText d.toNat (Vbbrac.nats t) with
    | .error _ => (s, [-12])
    | .ok m => (replay (begun d.toNat v.toNat) (m.map fun x => (0, x.1, x.2)), Vbbrac.ok [m.length])) := by
    unfold Vbbrac.step
    rw [if_neg (by rw [hb]; exact fun z => Bool.noConfusion z)]
    rfl
  rw [er] at hb
  simp at hb
  obtain ⟨d, rfl⟩ := nat_of hb.1.1
  obtain ⟨v, rfl⟩ := nat_of hb.2.1.1
  rw [Int.toNat_natCast, Int.toNat_natCast] at hst
  rw [bytes_nV hb.2.2] at hs
  have hd : d ≤ 3 := by omega
  have hv : v ≤ 3 := by omega
  refine q_asgC (vs := [.int (d : Nat), .ref b]) (ea_cons (ev_var rfl) (ea_cons (ev_var rfl) ea_nil)) fun H2 e2 E2 => ⟨d, b, Vbbrac.nats t, rfl, hd, ex_l (e1.trans e2) hs, by rw [nats_len]; exact hl, fun p am m H3 e3 ham M hm hp => ?_⟩
  refine ⟨p, _, rfl, SqT.of hp, rfl, _, _, rfl, _, _, rfl, _, _, rfl, rfl, ?_⟩
  have e := (e1.trans e2).trans e3
  show tSeq _ _ _ [some (V.ref as), some (.int (d : Nat)), some (.int (v : Nat)), some (.ref b), some (.int ((lookN (Vbbrac.readText d (Vbbrac.nats t)) m).1 : Nat)), some (.int ((lookN (Vbbrac.readText d (Vbbrac.nats t)) m).2 : Nat)), some (.ref am), none, none, none] H3
  cases q : Vbbrac.readText d (Vbbrac.nats t) with
  | error x =>
    rw [q] at hst
    have hx := text_kind q
    refine q_when (b := true) (et_is (et_test (ev_op (ev_var (v := .int (x.1 : Nat)) rfl) ev_c (rv_ne rfl))) (by simp; exact hx)) (fun _ H4 e4 => ?_) (fun hb H4 e4 => by cases hb)
    exact s_retL el1 fun p2 H5 hp2 e5 h5 => (k.same hst S) p2 H5 (fresh_back (e.trans e4) hp2) ((e.trans e4).trans e5) h5
  | ok m' =>
    rw [q] at hst
    have em := hm m' q
    subst em
    have L := readText_leg hd q
    have RA := fun i hi => read_all (v := v) hd L i hi
    have Ll := L.len
    refine q_when (b := false) (et_is (et_test (ev_op (ev_var (v := .int (0 : Nat)) rfl) ev_c (rv_ne rfl))) (by simp)) (fun hb H4 e4 => by cases hb) (fun _ H4 e4 => ?_)
    have e4 := e.trans e4
    have M4 := M.mono (‹Ex H3 H4›)
    obtain ⟨mv, hmv, pmv⟩ := M4
    refine asg_ap (mk_table (c := c) (d := d) (v := v) (ea_cons (ev_var rfl) (ea_cons (ev_var rfl) ea_nil)) fun ta A H5 T e5 hta hA => ?_)
    have e45 := e4.trans e5
    show tSeq _ _ _ [some (V.ref as), some (.int (d : Nat)), some (.int (v : Nat)), some (.ref b), some (.int (0 : Nat)), some (.int (m.length : Nat)), some (.ref am), some (.ref ta), none, none] H5
    refine q_forL (a := am) (xs := mv) (ev_var rfl) (SqL.of (e5 _ _ hmv)) (fun i σ' H' => ∃ (y8 y9 : Option V) (A' : Ads), σ' = [some (V.ref as), some (.int (d : Nat)), some (.int (v : Nat)), some (.ref b), some (.int (0 : Nat)), some (.int (m.length : Nat)), some (.ref am), some (.ref ta), y8, y9] ∧ Ex H4 H' ∧ (∀ x ∈ A'.l, H4 x = none) ∧ TabAt c H' ta A' (readState d v (m.take i)) (histOf (readState d v (m.take i))))
      (fun H6 e6 => ⟨none, none, A, rfl, e5.trans e6, hA, T.mono e6⟩) (fun i σ' H' _ ⟨_, _, _, _, q1, _⟩ => SqL.of (q1 _ _ hmv)) ?_ ?_
    · rintro i x σ' H' hx ⟨y8, y9, A', rfl, q1, q2, T'⟩
      have hi : i < m.length := by rw [← pmv.1]; exact (List.getElem?_eq_some_iff.mp hx).1
      have hmi : m[i]? = some m[i] := List.getElem?_eq_getElem hi
      obtain ⟨pr, hp1, hp2⟩ := pmv.2 i _ hmi
      rw [hp1] at hx
      obtain rfl := Option.some.inj hx
      refine g_pair (q1 _ _ hp2) ?_
      show tSeq _ _ _ [some (V.ref as), some (.int (d : Nat)), some (.int (v : Nat)), some (.ref b), some (.int (0 : Nat)), some (.int (m.length : Nat)), some (.ref am), some (.ref ta), some (.int (m[i].1 : Nat)), some (.int (m[i].2 : Nat))] H'
      obtain ⟨r1, r2, r3⟩ := RA i (by omega)
      have h37 := L.good.le _ (List.mem_of_getElem? hmi)
      have hlen : (m.take i).length ≤ 319 := by rw [List.length_take]; omega
      have hhl : (histOf (readState d v (m.take i))).length < 1000 := by
        rw [hist_len]
        show (readDeeds (m.take i)).length < 1000
        unfold readDeeds
        rw [List.length_map]
        omega
      refine q_ch (ea_cons (ev_var rfl) ea_nil) T' ⟨rfl, hhl, rfl, rfl, rfl⟩ fun H6 A6 T6 k6 n6 => ?_
      refine s_ch (s' := Vbbrac.stands (readState d v (m.take i)) m[i].1 m[i].2) (hs' := histOf (readState d v (m.take i)) ++ [readState d v (m.take i)]) (z := .non) (ea_cons (ev_var rfl) (ea_cons (ev_var rfl) (ea_cons (ev_var rfl) ea_nil))) T6 ⟨_, _, rfl, h37.1, by show (m.take i).length < 1000; omega, rfl, rfl, rfl⟩ fun H7 A7 T7 k7 n7 => ?_
      obtain ⟨kf, nf⟩ := chain_ch (Ex.refl H') T6 k6 n6 k7 n7
      have et : m.take (i + 1) = m.take i ++ [m[i]] := by
        rw [List.take_add_one, hmi]
        rfl
      refine ⟨_, _, A7, rfl, fun b2 o hb2 => kf b2 o (q1 _ _ hb2) fun hx => ?_, fun x hx => ?_, ?_⟩
      · rcases List.mem_cons.mp hx with z | z
        · rw [z, hta] at hb2
          cases hb2
        · rw [q2 _ z] at hb2
          cases hb2
      · rcases nf x hx with z | z
        · exact q2 x z
        · exact fresh_back q1 z
      · rw [et, read_next r2]
        exact T7.like rfl rfl rfl rfl rfl rfl rfl
    · rintro σ' H' ⟨y8, y9, A', rfl, q1, q2, T'⟩
      rw [pmv.1, List.take_length] at T'
      obtain ⟨r1, r2, r3⟩ := RA m.length (Nat.le_refl _)
      rw [List.take_length] at r1 r2
      obtain ⟨dxs, v0, F', hS, rfl, tf⟩ := S
      refine q_fld (y := .ref ta) (ev_var rfl) (ev_var rfl) ((e4.trans q1) _ _ hS) Z.zS.cl (Z.zS.no _ (by simp)) (by show (1 : Nat) < 1000; decide) fun H6 e6 => ?_
      rw [putF_table]
      obtain ⟨S2, k2, n2⟩ := sess_new (F := as :: F') (s' := readState d v m) (H := H) List.mem_cons_self hS ((e4.trans q1).trans e6) (T'.mono e6) r2 hd hv (fresh_back e4 hta) fun x hx => fresh_back e4 (q2 x hx)
      have nam : am ≠ as := ne_of (e6 _ _ (q1 _ _ hmv)) (((e4.trans q1).trans e6) _ _ hS) (by intro z; cases z)
      have ham6 : upd H6 as (.ins c.CS dxs [("table", V.ref ta)]) am = some (.lst mv) := by rw [upd_ne nam]; exact e6 _ _ (q1 _ _ hmv)
      refine s_retL (xs := [.int 0, .int (m.length : Nat)]) (el_lst (ea_cons ev_c (ea_cons (ev_is (ev_len (ev_var rfl) (SqL.of ham6)) (by rw [pmv.1])) ea_nil)) (by show (2 : Nat) ≤ 100000; decide)) fun p2 H7 hp2 e7 h7 => ?_
      unfold StepQ at k
      rw [hst] at k
      have r1' : replay (begun d v) (m.map fun x => (0, x.1, x.2)) = readState d v m := r1
      dsimp only at k
      rw [r1'] at k
      refine k p2 H7 _ (S2.mono e7) h7 ?_ (k2.trans (Keep.of_ex e7)) n2
      by_cases q : p2 = as
      · exact .inl (by rw [q]; exact List.mem_cons_self)
      · rw [upd_ne q] at hp2
        exact .inr (fresh_back ((e4.trans q1).trans e6) hp2)
end G
namespace G
open PySem PySem.Spec PyProof.Rows L2 Evl
open Vbbrac (State begun ranged act keeping did replay behind decimal)

/-! ### bounds -/
theorem behind_le : ∀ n, n < 36 → behind n < 10 ^ 48 := by decide +kernel
theorem sums_le (i : Nat) (h : i ≤ 35) : sums.getD i 0 < 10 ^ 48 := by
  rw [sums_get i h]
  exact behind_le _ (by omega)
theorem waysB_le (d p : Nat) (o : Bool) (h : Nat) (hd : d ≤ 2) (hp : p ≤ 2) : waysB d p o h ≤ 100 * h + 100 := by
  have e : d = 0 ∨ d = 1 ∨ d = 2 := by omega
  have e2 : p = 0 ∨ p = 1 ∨ p = 2 := by omega
  rcases e with rfl | rfl | rfl <;> rcases e2 with rfl | rfl | rfl <;> cases o <;>
    simp [waysB, waysB0, waysB1, waysB2, waysLoop] <;> omega
theorem waysP_le {q : Pz} (v : Vp q) : waysP q < 10 ^ 51 := by
  obtain ⟨b0, b1, d2⟩ := v
  unfold waysP
  by_cases he : atEnd q = true
  · rw [if_pos he]
    decide
  · rw [if_neg he]
    have hp : ¬ ((if q.bid = -1 then 4 else 3 : Int) ≤ (q.p : Nat)) := fun z => he (decide_eq_true z)
    have hs := sums_le (q.bid + 1).toNat (by omega)
    by_cases hb : q.bid = -1
    · rw [if_pos hb]
      rw [if_pos hb] at hp
      have hs0 := sums_le 0 (by omega)
      have : (4 - q.p) * sums.getD 0 0 ≤ 4 * sums.getD 0 0 := Nat.mul_le_mul_right _ (by omega)
      show 1 + (4 - q.p) * sums.getD 0 0 < _
      generalize sums.getD 0 0 = x at hs0 this
      generalize (4 - q.p) * x = y at this
      omega
    · rw [if_neg hb]
      rw [if_neg hb] at hp
      have := waysB_le q.d q.p q.o (sums.getD (q.bid + 1).toNat 0) d2 (by omega)
      generalize sums.getD (q.bid + 1).toNat 0 = x at hs this
      generalize waysB q.d q.p q.o x = y at this
      show y < _
      omega
theorem Vp.pos {dl : Nat} {m : Mds} (g : Good m) : Vp (posOf dl m) := ⟨g.lastI.1, g.lastI.2, doubled_le m⟩
theorem foldl_le (f : Nat → Nat) (b : Nat) : ∀ (l : List Nat), (∀ x ∈ l, f x ≤ b) → (l.map f).foldl (fun a b => a + b) 0 ≤ l.length * b
  | [], _ => Nat.le_of_eq (by simp)
  | x :: r, h => by
    show (r.map f).foldl (fun a b => a + b) (0 + f x) ≤ _
    rw [foldl_add]
    have h1 := foldl_le f b r fun y hy => h y (List.mem_cons_of_mem _ hy)
    have h2 := h x List.mem_cons_self
    rw [List.length_cons, Nat.add_mul]
    omega
theorem num_le {dl : Nat} : ∀ (r : Mds) (i : Nat) (q : Pz) (n k : Nat), Vp q → numGo dl i q n r = some k → k ≤ n + r.length * (100 * 10 ^ 51)
  | [], i, q, n, k, v, h => by
    cases h
    simp
  | (s, c) :: r, i, q, n, k, v, h => by
    rw [numGo_cons] at h
    split at h
    · rename_i hc
      have h37 := legalP_le hc.2.2 v.b0 v.b1
      have ih := num_le r _ _ _ _ (v.behind h37) h
      have hs : sumBelow q c (legalP q) ≤ 100 * 10 ^ 51 := by
        unfold sumBelow
        have h1 := foldl_le (fun x => waysP (behindP q x)) (10 ^ 51) ((legalP q).filter fun x => decide (x < c)) fun x hx => Nat.le_of_lt (waysP_le (v.behind (legalP_le (List.mem_filter.mp hx).1 v.b0 v.b1)))
        have h2 : ((legalP q).filter fun x => decide (x < c)).length ≤ 100 := Nat.le_trans (List.length_filter_le _ _) (legalP_len q v.b0 v.b1)
        exact Nat.le_trans h1 (Nat.mul_le_mul_right _ h2)
      rw [List.length_cons]
      generalize sumBelow q c (legalP q) = x at hs ih
      omega
    · cases h
theorem log_ok {n : Nat} (h : n < 10 ^ 60) : ((n : Nat) : Int).natAbs.log2 < 1920 := by
  rw [Int.natAbs_natCast]
  by_cases h0 : n = 0
  · subst h0
    decide
  · rw [Nat.log2_lt h0]
    exact Nat.lt_trans h (by decide)
theorem dec_len {n : Nat} (h : n < 10 ^ 60) : (decimal n).length ≤ 60 := by
  have : ∀ k n, (Vbbrac.digits k n).length ≤ k := by
    intro k
    induction k with
    | zero => intro n; exact Nat.le_refl _
    | succ k ih =>
      intro n
      unfold Vbbrac.digits
      split
      · show 1 ≤ k + 1
        omega
      · rw [List.length_append]
        have := ih (n / 10)
        show _ + 1 ≤ k + 1
        omega
  exact this 60 n
theorem named_some {m : Mds} {y : Nat × Nat} (h : Vbbrac.lastBid m = some y) : ∃ p, Vbbrac.firstNamed m (y.1 % 2) (y.2 % 5) = some p := by
  have hm := lastBid_mem h
  unfold Vbbrac.firstNamed
  have : (m.find? fun x => decide (3 ≤ x.2) && ((x.2 - 3) % 5 == y.2 % 5 && x.1 % 2 == y.1 % 2)).isSome = true := by
    rw [List.find?_isSome]
    exact ⟨_, hm, by simp⟩
  obtain ⟨z, hz⟩ := Option.isSome_iff_exists.mp this
  exact ⟨z.1, by rw [hz]; rfl⟩

/-! ### more of what evaluates -/
section
variable {K : PySem.W.Frag} {c : Cn} {σ : L2.St} {H : Hp} {te tl ta tb : TE} {q : Pz} {D : Ends} {tz : TS} {a : Addr} {m : Mds} {k1 k2 : Nat}
theorem el_cat {xs ys : List V} (ha : EvL ta σ H xs) (hb : EvL tb σ H ys) (hz : xs.length + ys.length ≤ 100000) : EvL (tOp rCat ta tb) σ H (xs ++ ys) := fun H1 e Q q =>
  ha H1 e _ fun p H2 hp e2 h2 => hb H2 (e.trans e2) _ fun r H3 hr e3 h3 => ⟨p, r, xs, ys, rfl, rfl, e3 _ _ h2, h3, sz_of hz, fun l hl => q l _ (fresh_back (e2.trans e3) hl) ((e2.trans e3).trans (Ex.new hl)) upd_same⟩
theorem el_callNL {sp : Sp} {xs ys : List V} (h : EvL tl σ H xs) (k : ∀ p H1, Ex H H1 → H1 p = some (.lst xs) → SpL sp ([.ref p] ++ []) H1 ys) : EvL (tCall sp [] E0 (tCons tl tNil)) σ H ys := fun H1 e Q q =>
  h H1 e _ fun p H2 hp e2 h2 => k p H2 (e.trans e2) h2 H2 (Ex.refl H2) Q (fun p2 H3 hp2 e3 h3 => q p2 H3 (fresh_back e2 hp2) (e2.trans e3) h3) _
theorem ev_waysQL (h : EvQ c te σ H q) (hb : EvL tb σ H (nV sums)) (v : Vp q) : Ev (tCall (sp_ways_of c) [] E0 (tCons te (tCons tb tNil))) σ H (.int (waysP q : Nat)) := fun H1 e Q k =>
  h H1 e _ fun p H2 hp e2 P => hb H2 (e.trans e2) _ fun b H3 hb3 e3 h3 => ⟨_, ⟨p, b, q, rfl, P.mono e3, SqL.of h3, v, rfl⟩, fun H4 e4 => k H4 ((e2.trans e3).trans e4)⟩
theorem ev_longQ (h : EvQ c te σ H q) (v : Vp q) : Ev (tCall (sp_longest_of c) [] E0 (tCons te tNil)) σ H (.int (longP q : Nat)) := fun H1 e Q k =>
  h H1 e _ fun p H2 hp e2 P => ⟨_, ⟨p, q, rfl, P, v, rfl⟩, fun H4 e4 => k H4 (e2.trans e4)⟩
theorem given_map (v : Nat × Nat → V) : ∀ (m : Mds), given m.length (fun _ => true) (fun i => v (m.getD i (0, 0))) = m.map v := fun m => by
  rw [given_all]
  refine List.ext_getElem? fun i => ?_
  rw [List.getElem?_map, List.getElem?_map]
  by_cases hi : i < m.length
  · rw [List.getElem?_range hi, List.getElem?_eq_getElem hi]
    show some (v (m.getD i (0, 0))) = _
    rw [List.getD_eq_getElem?_getD, List.getElem?_eq_getElem hi]
    rfl
  · rw [List.getElem?_eq_none (by simpa using hi), List.getElem?_eq_none (by simpa using hi)]
    rfl
/-- a comprehension over the calls made -/
theorem el_lcM {vs : List Nat} (v : Nat × Nat → V) (hM : MadeAt H a m) (h : Ev tl σ H (.ref a)) (hz : m.length ≤ 40000) (hw : ∀ x y, wipe (((wipe σ vs).set k1 (some x)).set k2 (some y)) vs = wipe σ vs)
    (he : ∀ (x : Nat × Nat) H1, Ex H H1 → Ev te (((wipe σ vs).set k1 (some (.int (x.1 : Nat)))).set k2 (some (.int (x.2 : Nat)))) H1 (v x)) :
    EvL (tLc (iList K tl) (gPair K k1 k2) tYes te vs) σ H (m.map v) := fun H0 e Q q => by
  obtain ⟨mv, h1, h2⟩ := hM
  refine h H0 e _ fun H1 e1 => ⟨a, rfl, ⟨mv, SqL.of ((e.trans e1) _ _ h1)⟩, fun Dl hD => ?_⟩
  refine lc_list (xs := mv) (Cw H1 (fun _ => true) (fun i => v (m.getD i (0, 0))) Dl) ⟨hD, Ex.new hD, upd_same⟩ (fun i H' _ p => SqL.of (((e.trans e1).trans p.2.1) _ _ h1)) (fun i x H' hi p => ?_) (fun H' p => q Dl H' (fresh_back e1 p.1) (e1.trans p.2.1) (by
    have p3 := p.2.2
    rw [h2.1, given_map] at p3
    exact p3))
  have hlt : i < m.length := by rw [← h2.1]; exact (List.getElem?_eq_some_iff.mp hi).1
  obtain ⟨pp, hp1, hp2⟩ := h2.2 i m[i] (List.getElem?_eq_getElem hlt)
  rw [hp1] at hi
  obtain rfl := Option.some.inj hi
  refine g_pair (((e.trans e1).trans p.2.1) _ _ hp2) ⟨hw _ _, cw_turn (t := tYes) p (by omega) (fun H3 e3 Q3 q3 => q3 H3 (Ex.refl H3)) fun _ => ?_⟩
  have eg : m.getD i (0, 0) = m[i] := by
    rw [List.getD_eq_getElem?_getD, List.getElem?_eq_getElem hlt]
    rfl
  rw [eg]
  exact he _ H1 (e.trans e1)
theorem given_filter (l : List Nat) (f : Nat → Bool) : given l.length (fun i => f (l.getD i 0)) (fun i => .int (l.getD i 0 : Nat)) = nV (l.filter f) := by
  unfold given nV
  induction l with
  | nil => rfl
  | cons x r ih =>
    rw [List.length_cons, List.range_succ_eq_map, List.filter_cons]
    have e0 : f ((x :: r).getD 0 0) = f x := rfl
    have e1 : ((List.range r.length).map Nat.succ).filter (fun i => f ((x :: r).getD i 0)) = ((List.range r.length).filter fun i => f (r.getD i 0)).map Nat.succ := by
      rw [List.filter_map]
      rfl
    rw [e0, e1]
    cases hx : f x with
    | true =>
      rw [if_pos rfl, List.map_cons, List.map_map, List.filter_cons, hx, if_pos rfl, List.map_cons, ← ih]
      rfl
    | false =>
      rw [if_neg (by exact fun z => Bool.noConfusion z), List.map_map, List.filter_cons, hx, if_neg (by exact fun z => Bool.noConfusion z), ← ih]
      rfl
/-- some of a list of whole numbers -/
theorem el_some {t : TT} {j : Nat} {vs : List Nat} {l : List Nat} (f : Nat → Bool) (h : Ev tl σ H (.ref a)) (hx : SqL K H a (nV l)) (hz : l.length ≤ 40000) (hw : ∀ x, wipe ((wipe σ vs).set j (some x)) vs = wipe σ vs)
    (ht : ∀ (x : Nat) H1, Ex H H1 → EvT t ((wipe σ vs).set j (some (.int (x : Nat)))) H1 (f x)) (he : ∀ (x : Nat) H1, Ex H H1 → Ev te ((wipe σ vs).set j (some (.int (x : Nat)))) H1 (.int (x : Nat))) :
    EvL (tLc (iList K tl) (gName j) t te vs) σ H (nV (l.filter f)) := by
  have q := el_lcL (K := K) (σ := σ) (H := H) (tl := tl) (te := te) (t := t) (j := j) (vs := vs) (fun i => f (l.getD i 0)) (fun i => .int (l.getD i 0 : Nat)) h hx (by rw [nV_len]; exact hz) hw (fun i x H1 e1 hi => by
    obtain ⟨n, hn, rfl⟩ := nV_inv hi
    have e : l.getD i 0 = n := by rw [List.getD_eq_getElem?_getD, hn]; rfl
    rw [e]
    exact ht n H1 e1) (fun i x H1 e1 hi _ => by
    obtain ⟨n, hn, rfl⟩ := nV_inv hi
    have e : l.getD i 0 = n := by rw [List.getD_eq_getElem?_getD, hn]; rfl
    rw [e]
    exact he n H1 e1)
  rw [nV_len, given_filter] at q
  exact q
theorem ok_nV (l : List Nat) : (Vbbrac.ok l).map V.int = nV (0 :: l) := by
  unfold Vbbrac.ok Vbbrac.ints nV
  rw [List.map_cons, List.map_map]
  rfl
end
end G
namespace G
open PySem PySem.Spec PyProof.Rows L2 Evl
open Vbbrac (State begun ranged act keeping did replay decimal)
local macro_rules | `(tactic| walk_at "ea") => `(tactic| first
  | with_reducible exact ea_nil
  | ((with_reducible refine' ea_cons ?eah ?eat); (case eah => walk_at "ev"); (case eat => walk_at "ea")))
local macro_rules | `(tactic| walk_at "rv") => `(tactic| first
  | with_reducible exact rv_I0
  | with_reducible exact rv_isN0
  | with_reducible exact rv_isNr
  | with_reducible exact rv_isNi
  | with_reducible exact rv_notN0
  | with_reducible exact rv_notNr
  | with_reducible exact rv_notNi
  | with_reducible exact rv_isN
  | with_reducible exact rv_notN
  | ((with_reducible refine' rv_eq ?rve); (case rve => rfl))
  | ((with_reducible refine' rv_ne ?rve); (case rve => rfl))
  | ((with_reducible refine' rv_I ?rve); (case rve => first | (exact (by decide)) | ((try dsimp only); first | decide | omega))))
local macro_rules | `(tactic| walk_at "ev") => `(tactic| first
  | with_reducible assumption
  | ((with_reducible refine' ev_var ?e0); (case e0 => exact rfl))
  | with_reducible exact ev_c
  | ((with_reducible refine' ev_op ?e1 ?e2 ?e3); (case e1 => walk_at "ev"); (case e2 => walk_at "ev"); (case e3 => walk_at "rv"))
  | ((with_reducible refine' ev_un ?e1 ru_neg); (case e1 => walk_at "ev"))
  | ((with_reducible refine' ev_call ?ca ?cb); (case ca => walk_at "ea"); (case cb => walk_at "gsp"))
  | ((with_reducible refine' ev_chain ?e1 ?e2 ?e3 ?e4 ?e5); (case e1 => walk_at "ev"); (case e2 => walk_at "ev"); (case e3 => walk_at "rv"); (case e4 => walk_at "ev"); (case e5 => walk_at "rv"))
  | ((with_reducible refine' ev_notV ?e1); (case e1 => walk_at "ev"))
  | fail "ev")
local macro_rules | `(tactic| walk_at "et") => `(tactic| first
  | with_reducible assumption
  | ((with_reducible refine' et_test ?e1); (case e1 => walk_at "ev"))
  | ((with_reducible refine' et_B ?e1); (case e1 => walk_at "ev"))
  | ((with_reducible refine' et_and ?e1 (fun hqq => ?e2)); (case e1 => walk_at "et"); (case e2 => walk_at "et"))
  | ((with_reducible refine' et_or ?e1 (fun hqq => ?e2)); (case e1 => walk_at "et"); (case e2 => walk_at "et"))
  | ((with_reducible refine' et_not ?e1); (case e1 => walk_at "et"))
  | fail "et")
local macro_rules | `(tactic| walk_at "nx") => `(tactic| ((try dsimp only); refine nx_of ?_))
local macro_rules | `(tactic| walk_at "xset") => `(tactic| (refine' x_set ?xe ?xk; (case xe => walk_at "ev")))
local macro_rules | `(tactic| walk_at "xasg") => `(tactic| (refine' x_asg ?xe ?xk; (case xe => walk_at "ev")))
local macro_rules | `(tactic| walk_at "xret") => `(tactic| (refine' x_ret ?xe ?xk; (case xe => walk_at "ev")))
local macro_rules | `(tactic| walk_at "xwhen") => `(tactic| (refine' x_when ?xe ?xk ?xl; (case xe => walk_at "et")))
local macro_rules | `(tactic| walk_at "xif") => `(tactic| (refine' x_if ?xe ?xk ?xl; (case xe => walk_at "et")))
local macro_rules | `(tactic| walk_at "xif2") => `(tactic| (refine' x_if2 ?xe ?xk ?xl; (case xe => walk_at "et")))
variable {c : Cn}
theorem rv_bool2 {K : PySem.W.Frag} {H : Hp} {x : Addr} {l : List Nat} {p : Nat} (h : H x = some (.lst (bools l))) (hp : p ≤ 3) : RV (rIxL K) (.ref x) (.int (p : Nat)) H (.bl (l.contains p)) := rv_ixL (SqL.of h) (atI_nat (bools_get l hp))
theorem pure_bound_number (Z : Zs c) (vs : List V) (H : Hp) (Q : VK) (E : XK) (h : sp_bound_number c vs H Q E) : t_bound_number c { nx := fun _ H' => Q .non H', rt := Q } (start ["table", "seat"] vs) H := by
  obtain ⟨z, ⟨a, A, s, hs, p, rfl, T, hp, rfl⟩, k⟩ := h
  refine q_when (b := s.barred.contains p) (et_B (ev_op (tv_barred Z T (ev_var rfl)) (ev_var rfl) (rv_bool2 T.bar hp))) (fun hb H1 e1 => ?_) (fun hb H1 e1 => ?_)
  · rw [if_pos hb] at k
    exact s_ret ev_c fun H2 e2 => k H2 (e1.trans e2)
  rw [if_neg (by rw [hb]; exact fun z => Bool.noConfusion z)] at k
  have T1 := T.mono e1
  refine s_ret (ev_if (b := s.once.contains p) (v := .int ((if s.once.contains p = true then 1 else 0 : Nat) : Int)) (et_B (ev_op (tv_once Z T1 (ev_var rfl)) (ev_var rfl) (rv_bool2 T1.once hp))) (fun hb => ?_) (fun hb => ?_)) fun H2 e2 => k H2 (e1.trans e2)
  · rw [if_pos hb]
    exact ev_c
  · rw [if_neg (by rw [hb]; exact fun z => Bool.noConfusion z)]
    exact ev_c
theorem pure_contract (Z : Zs c) (vs : List V) (H : Hp) (Q : VK) (E : XK) (h : sp_ask c .contract vs H Q E) : t_contract c sp_doubled sp_first_to_name sp_is_over sp_last_bid sp_partner_of sp_side_of_last_bid { nx := fun _ H' => Q .non H', rt := Q } (start ["table", "made", "bid", "declarer"] vs) H := by
  obtain ⟨v, F, s, rfl, tf, k⟩ := h
  have hst : Vbbrac.step s .contract = if s.on = false then (s, [-3]) else act s .contract := rfl
  rcases tf with ⟨off, rfl, rfl⟩ | ⟨d, w, a, A, R, hd, hw, rfl, rfl, T⟩
  · rw [hst, if_pos off] at k
    refine q_when (b := true) (et_test (ev_op (ev_var rfl) ev_c rv_isN0)) (fun _ H1 e1 => ?_) (fun hb H1 e1 => by cases hb)
    exact s_retL el1 fun p H2 hp e2 h2 => k p H2 (fresh_back e1 hp) (e1.trans e2) h2
  have I := R.inv
  have G0 := I.core.good
  rw [hst, if_neg (by rw [I.on]; exact fun z => Bool.noConfusion z)] at k
  refine q_when (b := false) (et_test (ev_op (ev_var rfl) ev_c rv_isNr)) (fun hb H1 e1 => by cases hb) (fun _ H1 e1 => ?_)
  have T1 := T.mono e1
  have k1 : RetL ((if Vbbrac.over s.made = false then [-10] else match Vbbrac.contract s.made with
      | none => [0]
      | some x => Vbbrac.ok [x.1, x.2.1, x.2.2, Vbbrac.nextSeat x.2.2, Vbbrac.partner x.2.2]).map V.int) H Q := k
  clear k
  have M1 := T1.made
  refine q_asg (tv_made Z T1 (ev_var rfl)) fun H2 e2 => ?_
  have M2 := M1.mono e2
  refine q_when (b := !Vbbrac.over s.made) (et_not (et_B (ev_call (ea_cons (ev_var rfl) ea_nil) (sv_is_over M2)))) (fun hb H3 e3 => ?_) (fun hb H3 e3 => ?_)
  · rw [if_pos (by simpa using hb)] at k1
    exact s_retL el1 fun p H4 hp e4 h4 => k1 p H4 (fresh_back ((e1.trans e2).trans e3) hp) (((e1.trans e2).trans e3).trans e4) h4
  rw [if_neg (by simpa using hb)] at k1
  have M3 := M2.mono e3
  have e13 := (e1.trans e2).trans e3
  refine q_asg (ev_call (ea_cons (ev_var rfl) ea_nil) (sv_last_bid M3)) fun H4 e4 => ?_
  have M4 := M3.mono e4
  have e14 := e13.trans e4
  unfold Vbbrac.contract at k1
  cases hl : Vbbrac.lastBid s.made with
  | none =>
    rw [hl] at k1
    have hi : lastI s.made = -1 := lastI_none hl
    refine q_when (b := true) (et_is (et_test (ev_op (ev_var rfl) ev_c (rv_eq rfl))) (by rw [hi]; rfl)) (fun _ H5 e5 => ?_) (fun hb H5 e5 => by cases hb)
    exact s_retL el1 fun p H6 hp e6 h6 => k1 p H6 (fresh_back (e14.trans e5) hp) ((e14.trans e5).trans e6) h6
  | some y =>
    rw [hl] at k1
    have hi : lastI s.made = (y.2 : Int) := lastI_some hl
    obtain ⟨p0, hp0⟩ := named_some hl
    have hsl : sideLast s.made = y.1 % 2 := by
      unfold sideLast
      rw [hl]
    refine q_when (b := false) (et_is (et_test (ev_op (ev_var rfl) ev_c (rv_eq rfl))) (by rw [hi]; simp <;> omega)) (fun hb H5 e5 => by cases hb) (fun _ H5 e5 => ?_)
    have M5 := M4.mono e5
    refine q_asg (v := .int (p0 : Nat)) (ev_is (ev_call (ea_cons (ev_var rfl) (ea_cons (ev_call (ea_cons (ev_var rfl) ea_nil) (sv_side_of_last_bid M5)) (ea_cons (ev_is (w := .int ((y.2 % 5 : Nat) : Int)) (ev_op (ev_var rfl) ev_c (rv_I (by decide))) (by rw [hi]; rfl)) ea_nil))) (sv_first_to_name (s := sideLast s.made) M5)) (by rw [hsl, hp0]; rfl)) fun H6 e6 => ?_
    have M6 := M5.mono e6
    have e16 := (e14.trans e5).trans e6
    refine s_retL (xs := (Vbbrac.ok [y.2, Vbbrac.doubled s.made, p0, Vbbrac.nextSeat p0, Vbbrac.partner p0]).map V.int) (el_lst (ea_cons ev_c (ea_cons (ev_is (ev_var rfl) (by rw [hi])) (ea_cons (ev_call (ea_cons (ev_var rfl) ea_nil) (sv_doubled M6)) (ea_cons (ev_var rfl) (ea_cons (ev_is (ev_op (ev_op (ev_var rfl) ev_c rv_I0) ev_c (rv_I (by decide))) (by unfold Vbbrac.nextSeat; simp)) (ea_cons (ev_is (ev_call (ea_cons (ev_var rfl) ea_nil) sv_partner_of) (by unfold Vbbrac.partner; simp)) ea_nil)))))) (by show (6 : Nat) ≤ 100000; decide)) fun p H7 hp e7 h7 => k1 p H7 (fresh_back e16 hp) (e16.trans e7) ?_
    rw [h7]
    dsimp only
    rw [hp0]
    rfl
theorem pure_ways (Z : Zs c) (vs : List V) (H : Hp) (Q : VK) (E : XK) (h : sp_ask c .ways vs H Q E) : t_ways c sp_bytes_of (sp_position_of c) sp_ways_from_bids (sp_ways_of c) { nx := fun _ H' => Q .non H', rt := Q } (start ["table", "count"] vs) H := by
  obtain ⟨v, F, s, rfl, tf, k⟩ := h
  have hst : Vbbrac.step s .ways = if s.on = false then (s, [-3]) else act s .ways := rfl
  rcases tf with ⟨off, rfl, rfl⟩ | ⟨d, w, a, A, R, hd, hw, rfl, rfl, T⟩
  · rw [hst, if_pos off] at k
    refine q_when (b := true) (et_test (ev_op (ev_var rfl) ev_c rv_isN0)) (fun _ H1 e1 => ?_) (fun hb H1 e1 => by cases hb)
    exact s_retL el1 fun p H2 hp e2 h2 => k p H2 (fresh_back e1 hp) (e1.trans e2) h2
  have I := R.inv
  have G0 := I.core.good
  rw [hst, if_neg (by rw [I.on]; exact fun z => Bool.noConfusion z)] at k
  refine q_when (b := false) (et_test (ev_op (ev_var rfl) ev_c rv_isNr)) (fun hb H1 e1 => by cases hb) (fun _ H1 e1 => ?_)
  have T1 := T.mono e1
  have k1 : RetL ((if s.waits.isSome = true then [-5] else Vbbrac.ok (decimal (Vbbrac.ways s.dealer s.made))).map V.int) H Q := k
  clear k
  have k := k1
  clear k1
  obtain ⟨wv, hwv, ew⟩ := tv_waiting Z T1
  refine q_when (b := s.waits.isSome) (et_is (et_test (ev_op (ew _ _ (ev_var rfl)) ev_c rv_notN)) ?_) (fun hb H2 e2 => ?_) (fun hb H2 e2 => ?_)
  · cases q : s.waits with
    | none =>
      rw [q] at hwv
      obtain rfl : wv = .non := hwv
      rfl
    | some z =>
      rw [q] at hwv
      obtain ⟨pp, rfl, _⟩ := hwv
      rfl
  · rw [if_pos hb] at k
    exact s_retL el1 fun p H3 hp e3 h3 => k p H3 (fresh_back (e1.trans e2) hp) ((e1.trans e2).trans e3) h3
  rw [if_neg (by rw [hb]; exact fun z => Bool.noConfusion z)] at k
  have e12 := e1.trans e2
  have T2 := T.mono e12
  have hb60 : waysP (posOf s.dealer s.made) < 10 ^ 60 := Nat.lt_trans (waysP_le (Vp.pos G0)) (by decide)
  refine q_asg (ev_waysQL (sq_position_of (ea_cons (tv_dealer Z T2 (ev_var rfl)) (ea_cons (tv_made Z T2 (ev_var rfl)) ea_nil)) T2.made) (el_call ea_nil sl_ways_from_bids) (Vp.pos G0)) fun H3 e3 => ?_
  rw [ok_nV, ← ways_pos s.dealer G0] at k
  have hl := dec_len hb60
  have htl := tl_dec hb60
  have hsz : (Str.ofString (toString ((waysP (posOf s.dealer s.made) : Nat) : Int))).cps.size ≤ 40000 := by
    rw [← Array.length_toList, htl]
    omega
  have q := sl_bytes_of (H := H3) hsz
  rw [htl] at q
  refine s_retL (xs := nV (0 :: decimal (waysP (posOf s.dealer s.made)))) (el_cat (xs := [.int (0 : Nat)]) (el_lst (ea_cons ev_c ea_nil) (by show (1 : Nat) ≤ 100000; decide)) (el_call (ea_cons (ev_str (ev_var rfl) (log_ok hb60)) ea_nil) q) (by show 1 + (nV (decimal _)).length ≤ 100000; rw [nV_len]; omega)) fun p H4 hp e4 h4 => k p H4 (fresh_back (e12.trans e3) hp) ((e12.trans e3).trans e4) h4
theorem pure_longest (Z : Zs c) (vs : List V) (H : Hp) (Q : VK) (E : XK) (h : sp_ask c .longest vs H Q E) : t_longest c (sp_longest_of c) (sp_position_of c) { nx := fun _ H' => Q .non H', rt := Q } (start ["table"] vs) H := by
  obtain ⟨v, F, s, rfl, tf, k⟩ := h
  have hst : Vbbrac.step s .longest = if s.on = false then (s, [-3]) else act s .longest := rfl
  rcases tf with ⟨off, rfl, rfl⟩ | ⟨d, w, a, A, R, hd, hw, rfl, rfl, T⟩
  · rw [hst, if_pos off] at k
    refine q_when (b := true) (et_test (ev_op (ev_var rfl) ev_c rv_isN0)) (fun _ H1 e1 => ?_) (fun hb H1 e1 => by cases hb)
    exact s_retL el1 fun p H2 hp e2 h2 => k p H2 (fresh_back e1 hp) (e1.trans e2) h2
  have I := R.inv
  have G0 := I.core.good
  rw [hst, if_neg (by rw [I.on]; exact fun z => Bool.noConfusion z)] at k
  refine q_when (b := false) (et_test (ev_op (ev_var rfl) ev_c rv_isNr)) (fun hb H1 e1 => by cases hb) (fun _ H1 e1 => ?_)
  have T1 := T.mono e1
  have k1 : RetL ((if s.waits.isSome = true then [-5] else Vbbrac.ok [Vbbrac.longest s.dealer s.made]).map V.int) H Q := k
  clear k
  have k := k1
  clear k1
  obtain ⟨wv, hwv, ew⟩ := tv_waiting Z T1
  refine q_when (b := s.waits.isSome) (et_is (et_test (ev_op (ew _ _ (ev_var rfl)) ev_c rv_notN)) ?_) (fun hb H2 e2 => ?_) (fun hb H2 e2 => ?_)
  · cases q : s.waits with
    | none =>
      rw [q] at hwv
      obtain rfl : wv = .non := hwv
      rfl
    | some z =>
      rw [q] at hwv
      obtain ⟨pp, rfl, _⟩ := hwv
      rfl
  · rw [if_pos hb] at k
    exact s_retL el1 fun p H3 hp e3 h3 => k p H3 (fresh_back (e1.trans e2) hp) ((e1.trans e2).trans e3) h3
  rw [if_neg (by rw [hb]; exact fun z => Bool.noConfusion z)] at k
  have e12 := e1.trans e2
  have T2 := T.mono e12
  rw [ok_nV, ← long_pos s.dealer G0] at k
  refine s_retL (xs := nV [0, longP (posOf s.dealer s.made)]) (el_lst (ea_cons ev_c (ea_cons (ev_longQ (sq_position_of (ea_cons (tv_dealer Z T2 (ev_var rfl)) (ea_cons (tv_made Z T2 (ev_var rfl)) ea_nil)) T2.made) (Vp.pos G0)) ea_nil)) (by show (2 : Nat) ≤ 100000; decide)) fun p H4 hp e4 h4 => k p H4 (fresh_back e12 hp) (e12.trans e4) h4
theorem pure_number (Z : Zs c) (vs : List V) (H : Hp) (Q : VK) (E : XK) (h : sp_ask c .number vs H Q E) : t_number c sp_bytes_of sp_is_over (sp_number_of c) { nx := fun _ H' => Q .non H', rt := Q } (start ["table", "found"] vs) H := by
  obtain ⟨v, F, s, rfl, tf, k⟩ := h
  have hst : Vbbrac.step s .number = if s.on = false then (s, [-3]) else act s .number := rfl
  rcases tf with ⟨off, rfl, rfl⟩ | ⟨d, w, a, A, R, hd, hw, rfl, rfl, T⟩
  · rw [hst, if_pos off] at k
    refine q_when (b := true) (et_test (ev_op (ev_var rfl) ev_c rv_isN0)) (fun _ H1 e1 => ?_) (fun hb H1 e1 => by cases hb)
    exact s_retL el1 fun p H2 hp e2 h2 => k p H2 (fresh_back e1 hp) (e1.trans e2) h2
  have I := R.inv
  have G0 := I.core.good
  rw [hst, if_neg (by rw [I.on]; exact fun z => Bool.noConfusion z)] at k
  refine q_when (b := false) (et_test (ev_op (ev_var rfl) ev_c rv_isNr)) (fun hb H1 e1 => by cases hb) (fun _ H1 e1 => ?_)
  have T1 := T.mono e1
  have k1 : RetL ((if Vbbrac.over s.made = false then [-10] else match Vbbrac.readText s.dealer (Vbbrac.textOf s.made) with
      | .error _ => [-11]
      | .ok m => if m = s.made then Vbbrac.ok (decimal (Vbbrac.rankFrom s.dealer [] (s.made.map fun x => x.2))) else [-11]).map V.int) H Q := k
  clear k
  refine q_when (b := !Vbbrac.over s.made) (et_not (et_B (ev_call (ea_cons (tv_made Z T1 (ev_var rfl)) ea_nil) (sv_is_over T1.made)))) (fun hb H2 e2 => ?_) (fun hb H2 e2 => ?_)
  · rw [if_pos (by simpa using hb)] at k1
    exact s_retL el1 fun p H3 hp e3 h3 => k1 p H3 (fresh_back (e1.trans e2) hp) ((e1.trans e2).trans e3) h3
  rw [if_neg (by simpa using hb)] at k1
  have e12 := e1.trans e2
  have T2 := T.mono e12
  have hm320 : s.made.length ≤ 320 := Nat.le_trans I.ml I.dn
  have hlk := number_link (dl := s.dealer) (by rw [I.dl]; exact hd) G0
  refine q_asg (ev_call (ea_cons (tv_dealer Z T2 (ev_var rfl)) (ea_cons (tv_made Z T2 (ev_var rfl)) ea_nil)) (sv_number_of T2.made (by omega))) fun H3 e3 => ?_
  have e13 := e12.trans e3
  cases hn : numGo s.dealer 0 first 0 s.made with
  | none =>
    have hL : (match Vbbrac.readText s.dealer (Vbbrac.textOf s.made) with
      | .error _ => [-11]
      | .ok m => if m = s.made then Vbbrac.ok (decimal (Vbbrac.rankFrom s.dealer [] (s.made.map fun x => x.2))) else [-11]) = [-11] := by
      rw [hn] at hlk
      cases hr : Vbbrac.readText s.dealer (Vbbrac.textOf s.made) with
      | error x => rfl
      | ok m =>
        rw [hr] at hlk
        dsimp only at hlk ⊢
        by_cases q : m = s.made
        · rw [if_pos q] at hlk
          cases hlk
        · rw [if_neg q]
    rw [hL] at k1
    refine q_when (b := true) (et_test (ev_op (ev_var rfl) ev_c rv_isN0)) (fun _ H4 e4 => ?_) (fun hb H4 e4 => by cases hb)
    exact s_retL el1 fun p H5 hp e5 h5 => k1 p H5 (fresh_back (e13.trans e4) hp) ((e13.trans e4).trans e5) h5
  | some n =>
    have hL : (match Vbbrac.readText s.dealer (Vbbrac.textOf s.made) with
      | .error _ => [-11]
      | .ok m => if m = s.made then Vbbrac.ok (decimal (Vbbrac.rankFrom s.dealer [] (s.made.map fun x => x.2))) else [-11]) = Vbbrac.ok (decimal n) := by
      rw [hn] at hlk
      cases hr : Vbbrac.readText s.dealer (Vbbrac.textOf s.made) with
      | error x =>
        rw [hr] at hlk
        cases hlk
      | ok m =>
        rw [hr] at hlk
        dsimp only at hlk ⊢
        by_cases q : m = s.made
        · rw [if_pos q] at hlk ⊢
          rw [Option.some.inj hlk]
        · rw [if_neg q] at hlk
          cases hlk
    rw [hL, ok_nV] at k1
    have hn60 : n < 10 ^ 60 := by
      have h1 := num_le _ _ _ _ _ Vp.first hn
      have h2 : s.made.length * (100 * 10 ^ 51) ≤ 320 * (100 * 10 ^ 51) := Nat.mul_le_mul_right _ hm320
      have h3 : 0 + 320 * (100 * 10 ^ 51) < 10 ^ 60 := by decide
      omega
    refine q_when (b := false) (et_test (ev_op (ev_var (v := .int (n : Nat)) rfl) ev_c rv_isNi)) (fun hb H4 e4 => by cases hb) (fun _ H4 e4 => ?_)
    have hl := dec_len hn60
    have htl := tl_dec hn60
    have hsz : (Str.ofString (toString ((n : Nat) : Int))).cps.size ≤ 40000 := by
      rw [← Array.length_toList, htl]
      omega
    have q := sl_bytes_of (H := H4) hsz
    rw [htl] at q
    refine s_retL (xs := nV (0 :: decimal n)) (el_cat (xs := [.int (0 : Nat)]) (el_lst (ea_cons ev_c ea_nil) (by show (1 : Nat) ≤ 100000; decide)) (el_call (ea_cons (ev_str (ev_var rfl) (log_ok hn60)) ea_nil) q) (by show 1 + (nV (decimal _)).length ≤ 100000; rw [nV_len]; omega)) fun p H5 hp e5 h5 => k1 p H5 (fresh_back (e13.trans e4) hp) ((e13.trans e4).trans e5) h5
theorem pure_auction_text (Z : Zs c) (vs : List V) (H : Hp) (Q : VK) (E : XK) (h : sp_ask c .text vs H Q E) : t_auction_text c (sp_bytes_of_auction c) { nx := fun _ H' => Q .non H', rt := Q } (start ["table", "seat", "call"] vs) H := by
  obtain ⟨v, F, s, rfl, tf, k⟩ := h
  have hst : Vbbrac.step s .text = if s.on = false then (s, [-3]) else act s .text := rfl
  rcases tf with ⟨off, rfl, rfl⟩ | ⟨d, w, a, A, R, hd, hw, rfl, rfl, T⟩
  · rw [hst, if_pos off] at k
    refine q_when (b := true) (et_test (ev_op (ev_var rfl) ev_c rv_isN0)) (fun _ H1 e1 => ?_) (fun hb H1 e1 => by cases hb)
    exact s_retL el1 fun p H2 hp e2 h2 => k p H2 (fresh_back e1 hp) (e1.trans e2) h2
  have I := R.inv
  have G0 := I.core.good
  rw [hst, if_neg (by rw [I.on]; exact fun z => Bool.noConfusion z)] at k
  refine q_when (b := false) (et_test (ev_op (ev_var rfl) ev_c rv_isNr)) (fun hb H1 e1 => by cases hb) (fun _ H1 e1 => ?_)
  have T1 := T.mono e1
  have k1 : RetL ((Vbbrac.ok (Vbbrac.textOf s.made)).map V.int) H Q := k
  clear k
  rw [ok_nV] at k1
  have hm320 : s.made.length ≤ 320 := Nat.le_trans I.ml I.dn
  have q := el_lcM (K := c.K) (σ := [some (V.ref a), none, none]) (H := H1) (tl := tFld c.K (tVar 0) "made") (te := tVar 2) (k1 := 1) (k2 := 2) (vs := [1, 2]) (fun x => .int (x.2 : Nat)) T1.made (tv_made Z T1 (ev_var rfl)) (by omega) (fun x y => rfl) (fun x H2 e2 => ev_var rfl)
  have eq2 : s.made.map (fun x => V.int (x.2 : Nat)) = nV (s.made.map fun x => x.2) := by
    unfold nV
    rw [List.map_map]
    rfl
  rw [eq2] at q
  have hlen : ∀ l : List Nat, (Vbbrac.joined (l.map Vbbrac.callText)).length ≤ 3 * l.length := by
    intro l
    induction l with
    | nil => exact Nat.le_refl _
    | cons x r ih =>
      have h2 := (callText_len x).2
      cases r with
      | nil =>
        show (Vbbrac.callText x).length ≤ 3 * 1
        omega
      | cons y r =>
        show (Vbbrac.callText x ++ 32 :: Vbbrac.joined ((y :: r).map Vbbrac.callText)).length ≤ _
        rw [List.length_append, List.length_cons]
        simp only [List.length_cons] at ih ⊢
        omega
  have hj : (s.made.map fun x => x.2).map Vbbrac.callText = s.made.map fun x => Vbbrac.callText x.2 := by
    rw [List.map_map]
    rfl
  have q2 : EvL (tCall (sp_bytes_of_auction c) [] E0 (tCons (tLc (iList c.K (tFld c.K (tVar 0) "made")) (gPair c.K 1 2) tYes (tVar 2) [1, 2]) tNil)) [some (V.ref a), none, none] H1 (nV (Vbbrac.joined ((s.made.map fun x => x.2).map Vbbrac.callText))) :=
    el_callNL q fun p H3 e3 h3 => sl_bytes_of_auction (SqL.of h3) (by rw [List.length_map]; omega) fun x hx => by
      obtain ⟨y, hy, rfl⟩ := List.mem_map.mp hx
      exact (G0.le y hy).2
  refine s_retL (xs := nV (0 :: Vbbrac.textOf s.made)) ?_ fun p H4 hp e4 h4 => k1 p H4 (fresh_back e1 hp) (e1.trans e4) h4
  have h3 := hlen (s.made.map fun x => x.2)
  rw [List.length_map] at h3
  have q3 := el_cat (ta := tLst (tCons (tC (.int 0)) tNil)) (xs := [.int (0 : Nat)]) (el_lst (ea_cons ev_c ea_nil) (by show (1 : Nat) ≤ 100000; decide)) q2 (by rw [nV_len]; show 1 + _ ≤ 100000; omega)
  rw [hj] at q3
  exact q3
theorem pure_calls_made (Z : Zs c) (vs : List V) (H : Hp) (Q : VK) (E : XK) (h : sp_ask c .made vs H Q E) : t_calls_made c { nx := fun _ H' => Q .non H', rt := Q } (start ["table", "answer", "seat", "call"] vs) H := by
  obtain ⟨v, F, s, rfl, tf, k⟩ := h
  have hst : Vbbrac.step s .made = if s.on = false then (s, [-3]) else act s .made := rfl
  rcases tf with ⟨off, rfl, rfl⟩ | ⟨d, w, a, A, R, hd, hw, rfl, rfl, T⟩
  · rw [hst, if_pos off] at k
    refine q_when (b := true) (et_test (ev_op (ev_var rfl) ev_c rv_isN0)) (fun _ H1 e1 => ?_) (fun hb H1 e1 => by cases hb)
    exact s_retL el1 fun p H2 hp e2 h2 => k p H2 (fresh_back e1 hp) (e1.trans e2) h2
  have I := R.inv
  have G0 := I.core.good
  rw [hst, if_neg (by rw [I.on]; exact fun z => Bool.noConfusion z)] at k
  refine q_when (b := false) (et_test (ev_op (ev_var rfl) ev_c rv_isNr)) (fun hb H1 e1 => by cases hb) (fun _ H1 e1 => ?_)
  have T1 := T.mono e1
  have k1 : RetL ((Vbbrac.ok (s.made.flatMap fun x => [x.1, x.2])).map V.int) H Q := k
  clear k
  rw [ok_nV] at k1
  have hm320 : s.made.length ≤ 320 := Nat.le_trans I.ml I.dn
  refine q_asgL (xs := [.int (0 : Nat)]) (el_lst (ea_cons ev_c ea_nil) (by show (1 : Nat) ≤ 100000; decide)) fun l H2 hl e2 h2 => ?_
  obtain ⟨mv, hmv, pmv⟩ := (T1.mono e2).made
  have n0 : A.am ≠ l := by
    obtain ⟨mv', hmv', _⟩ := T1.made
    exact ne_of_none hmv' hl
  refine q_forL (a := A.am) (xs := mv) (tv_made Z (T1.mono e2) (ev_var rfl)) (SqL.of hmv) (fun i σ' H' => ∃ y2 y3, σ' = [some (V.ref a), some (.ref l), y2, y3] ∧ Ex H1 H' ∧ H' l = some (.lst (nV (0 :: (s.made.take i).flatMap fun x => [x.1, x.2]))) ∧ H' A.am = some (.lst mv) ∧ PairsAt H' mv s.made)
    (fun H3 e3 => ⟨none, none, rfl, e2.trans e3, e3 _ _ h2, e3 _ _ hmv, pmv.mono e3⟩) (fun i σ' H' _ ⟨_, _, _, _, _, q, _⟩ => SqL.of q) ?_ ?_
  · rintro i x σ' H' hx ⟨y2, y3, rfl, q1, q2, q3, q4⟩
    have hi : i < s.made.length := by rw [← q4.1]; exact (List.getElem?_eq_some_iff.mp hx).1
    have hmi : s.made[i]? = some s.made[i] := List.getElem?_eq_getElem hi
    obtain ⟨pr, hp1, hp2⟩ := q4.2 i _ hmi
    rw [hp1] at hx
    obtain rfl := Option.some.inj hx
    refine g_pair hp2 ?_
    have et : s.made.take (i + 1) = s.made.take i ++ [s.made[i]] := by
      rw [List.take_add_one, hmi]
      rfl
    have hlen : ∀ m : Mds, (m.flatMap fun x => [x.1, x.2]).length = 2 * m.length := by
      intro m
      induction m with
      | nil => rfl
      | cons x r ih =>
        simp only [List.flatMap_cons, List.length_append, List.length_cons, List.length_nil, ih]
        omega
    refine s_extL (ys := [.int (s.made[i].1 : Nat), .int (s.made[i].2 : Nat)]) q2 (ev_var rfl) (el_lst (ea_cons (ev_var rfl) (ea_cons (ev_var rfl) ea_nil)) (by show (2 : Nat) ≤ 100000; decide)) (by
      rw [nV_len, List.length_cons, hlen, List.length_take]
      show _ + 2 ≤ 100000
      omega) fun H3 e3 => ?_
    have kt := tup_upd (o := .lst (nV (0 :: (s.made.take i).flatMap fun x => [x.1, x.2]) ++ [.int (s.made[i].1 : Nat), .int (s.made[i].2 : Nat)])) (lst_ne_tup (e3 _ _ q2))
    refine ⟨_, _, rfl, (q1.trans e3).mut hl, ?_, by rw [upd_ne n0]; exact e3 _ _ q3, (q4.mono e3).keep kt⟩
    rw [upd_same, et, List.flatMap_append]
    show some (HO.lst (nV (0 :: (s.made.take i).flatMap fun x => [x.1, x.2]) ++ nV [s.made[i].1, s.made[i].2])) = _
    rw [← nV_append]
    rfl
  · rintro σ' H' ⟨y2, y3, rfl, q1, q2, q3, q4⟩
    rw [q4.1, List.take_length] at q2
    exact s_ret (ev_var rfl) fun H3 e3 => k1 l H3 (fresh_back e1 hl) ((e1.trans q1).trans e3) (e3 _ _ q2)
theorem pure_named (Z : Zs c) (vs : List V) (H : Hp) (Q : VK) (E : XK) (h : sp_named c vs H Q E) : t_named c sp_first_to_name { nx := fun _ H' => Q .non H', rt := Q } (start ["table", "side", "strain", "seat"] vs) H := by
  obtain ⟨v, F, s, x, y, rfl, tf, k⟩ := h
  have er : ranged (.named x y) = ((decide (0 ≤ x) && decide (x ≤ 1)) && (decide (0 ≤ y) && decide (y ≤ 4))) := rfl
  refine q_when (b := !ranged (.named x y)) (et_is (et_or (a := !(decide (0 ≤ x) && decide (x ≤ 1))) (et_not (et_test (ev_chain ev_c (ev_var rfl) rv_I0 ev_c rv_I0))) fun _ => et_not (et_test (ev_chain ev_c (ev_var rfl) rv_I0 ev_c rv_I0))) (by rw [er, Bool.eq_iff_iff]; simp; omega)) (fun hb H1 e1 => ?_) (fun hb H1 e1 => ?_)
  · have hb : ranged (.named x y) = false := by simpa using hb
    rw [step_bad hb] at k
    exact s_retL el1 fun p H2 hp e2 h2 => k p H2 (fresh_back e1 hp) (e1.trans e2) h2
  have hb : ranged (.named x y) = true := by simpa using hb
  have hst : Vbbrac.step s (.named x y) = if s.on = false then (s, [-3]) else act s (.named x y) := by
    unfold Vbbrac.step
    rw [if_neg (by rw [hb]; exact fun z => Bool.noConfusion z)]
  rw [er] at hb
  simp at hb
  obtain ⟨sd, rfl⟩ := nat_of hb.1.1
  obtain ⟨st, rfl⟩ := nat_of hb.2.1
  rcases tf with ⟨off, rfl, rfl⟩ | ⟨d, w, a, A, R, hd, hw, rfl, rfl, T⟩
  · rw [hst, if_pos off] at k
    refine q_when (b := true) (et_test (ev_op (ev_var rfl) ev_c rv_isN0)) (fun _ H2 e2 => ?_) (fun hb H1 e1 => by cases hb)
    exact s_retL el1 fun p H3 hp e3 h3 => k p H3 (fresh_back (e1.trans e2) hp) ((e1.trans e2).trans e3) h3
  have I := R.inv
  rw [hst, if_neg (by rw [I.on]; exact fun z => Bool.noConfusion z)] at k
  have k1 : RetL ((match Vbbrac.firstNamed s.made sd st with
    | some p => Vbbrac.ok [p + 1]
    | none => [0, 0]).map V.int) H Q := k
  clear k
  refine q_when (b := false) (et_test (ev_op (ev_var rfl) ev_c rv_isNr)) (fun hb H1 e1 => by cases hb) (fun _ H2 e2 => ?_)
  have e12 := e1.trans e2
  have T2 := T.mono e12
  refine q_asg (ev_call (ea_cons (tv_made Z T2 (ev_var rfl)) (ea_cons (ev_var rfl) (ea_cons (ev_var rfl) ea_nil))) (sv_first_to_name (s := sd) (c := st) T2.made)) fun H3 e3 => ?_
  have e13 := e12.trans e3
  cases hn : Vbbrac.firstNamed s.made sd st with
  | none =>
    rw [hn] at k1
    refine q_when (b := true) (et_test (ev_op (ev_var rfl) ev_c rv_isN0)) (fun _ H4 e4 => ?_) (fun hb H1 e1 => by cases hb)
    exact s_retL (xs := [.int 0, .int 0]) (el_lst (ea_cons ev_c (ea_cons ev_c ea_nil)) (by show (2 : Nat) ≤ 100000; decide)) fun p H5 hp e5 h5 => k1 p H5 (fresh_back (e13.trans e4) hp) ((e13.trans e4).trans e5) h5
  | some p0 =>
    rw [hn] at k1
    refine q_when (b := false) (et_test (ev_op (ev_var (v := .int (p0 : Nat)) rfl) ev_c rv_isNi)) (fun hb H1 e1 => by cases hb) (fun _ H4 e4 => ?_)
    exact s_retL (xs := [.int 0, .int (p0 + 1 : Nat)]) (el_lst (ea_cons ev_c (ea_cons (ev_is (ev_op (ev_var rfl) ev_c rv_I0) (by simp)) ea_nil)) (by show (2 : Nat) ≤ 100000; decide)) fun p H5 hp e5 h5 => k1 p H5 (fresh_back (e13.trans e4) hp) ((e13.trans e4).trans e5) h5
theorem pure_legals (Z : Zs c) (vs : List V) (H : Hp) (Q : VK) (E : XK) (h : sp_ask c .legals vs H Q E) : t_legals c sp_is_legal (sp_must_pass c) (sp_turn_of c) { nx := fun _ H' => Q .non H', rt := Q } (start ["table", "seat", "calls", "call"] vs) H := by
  obtain ⟨v, F, s, rfl, tf, k⟩ := h
  have hst : Vbbrac.step s .legals = if s.on = false then (s, [-3]) else act s .legals := rfl
  rcases tf with ⟨off, rfl, rfl⟩ | ⟨d, w, a, A, R, hd, hw, rfl, rfl, T⟩
  · rw [hst, if_pos off] at k
    refine q_when (b := true) (et_test (ev_op (ev_var rfl) ev_c rv_isN0)) (fun _ H1 e1 => ?_) (fun hb H1 e1 => by cases hb)
    exact s_retL el1 fun p H2 hp e2 h2 => k p H2 (fresh_back e1 hp) (e1.trans e2) h2
  have I := R.inv
  have G0 := I.core.good
  rw [hst, if_neg (by rw [I.on]; exact fun z => Bool.noConfusion z)] at k
  refine q_when (b := false) (et_test (ev_op (ev_var rfl) ev_c rv_isNr)) (fun hb H1 e1 => by cases hb) (fun _ H1 e1 => ?_)
  have T1 := T.mono e1
  have k1 : RetL ((if s.waits.isSome = true then [-5] else Vbbrac.ok ((Vbbrac.legals s.made (Vbbrac.turnOf s)).filter fun c => c == 0 || !(s.barred.contains (Vbbrac.turnOf s) || (s.once.contains (Vbbrac.turnOf s) || (s.mend.isSome && decide (c < 3)))))).map V.int) H Q := k
  clear k
  have k := k1
  clear k1
  obtain ⟨wv, hwv, ew⟩ := tv_waiting Z T1
  refine q_when (b := s.waits.isSome) (et_is (et_test (ev_op (ew _ _ (ev_var rfl)) ev_c rv_notN)) ?_) (fun hb H2 e2 => ?_) (fun hb H2 e2 => ?_)
  · cases q : s.waits with
    | none =>
      rw [q] at hwv
      obtain rfl : wv = .non := hwv
      rfl
    | some z =>
      rw [q] at hwv
      obtain ⟨pp, rfl, _⟩ := hwv
      rfl
  · rw [if_pos hb] at k
    exact s_retL el1 fun p H3 hp e3 h3 => k p H3 (fresh_back (e1.trans e2) hp) ((e1.trans e2).trans e3) h3
  rw [if_neg (by rw [hb]; exact fun z => Bool.noConfusion z)] at k
  have e12 := e1.trans e2
  have T2 := T.mono e12
  rw [ok_nV] at k
  have ht3 : Vbbrac.turnOf s ≤ 3 := turn_lt (by rw [I.dl]; exact hd) s.made
  generalize hL : ((Vbbrac.legals s.made (Vbbrac.turnOf s)).filter fun c => c == 0 || !(s.barred.contains (Vbbrac.turnOf s) || (s.once.contains (Vbbrac.turnOf s) || (s.mend.isSome && decide (c < 3))))) = L at k
  refine q_asg (v := .int (Vbbrac.turnOf s : Nat)) (ev_call (ea_cons (ev_var rfl) ea_nil) (RetSp.sv fun H3 e3 => ⟨a, A, s, _, rfl, T2.mono e3, rfl⟩)) fun H3 e3 => ?_
  have e13 := e12.trans e3
  have T3 := T.mono e13
  have q := el_lcR1 (σ := [some (V.ref a), some (.int (Vbbrac.turnOf s : Nat)), none, none]) (H := H3) (t := tB (tCall sp_is_legal [] E0 (tCons (tFld c.K (tVar 0) "made") (tCons (tVar 1) (tCons (tVar 3) tNil))))) (te := tVar 3) (ta := tCons (tC (.int 38)) tNil) (j := 3) (vs := [3]) (n := 38) (fun i => Vbbrac.legal s.made (Vbbrac.turnOf s) i) (fun i => .int (i : Nat)) (ea_cons ev_c ea_nil) (by omega) (fun _ => rfl)
    (fun i H4 e4 hi => et_B (ev_call (ea_cons (tv_made Z (T3.mono e4) (ev_var rfl)) (ea_cons (ev_var rfl) (ea_cons (ev_var rfl) ea_nil))) (sv_is_legal (T3.mono e4).made (by omega)))) (fun i H4 e4 hi _ => ev_var rfl)
  have q : EvL _ _ H3 (nV (Vbbrac.legals s.made (Vbbrac.turnOf s))) := q
  refine q_asgL q fun p0 H4 hp0 e4 h4 => ?_
  have e14 := e13.trans e4
  have hl38 : (Vbbrac.legals s.made (Vbbrac.turnOf s)).length ≤ 38 := by
    have := List.length_filter_le (fun c => Vbbrac.legal s.made (Vbbrac.turnOf s) c) (List.range 38)
    rw [List.length_range] at this
    exact this
  have last : ∀ (H5 : Hp) (p : Addr) (l : List Nat), Ex H H5 → H5 p = some (.lst (nV l)) → l.length ≤ 38 → (if s.mend.isSome = true then l.filter (fun c => decide (c = 0) || decide (3 ≤ c)) else l) = L →
      tSeq (tIfS (tTest (tOp rNotN (tFld c.K (tVar 0) "mending") (tC .non))) (tAsg (tLc (iList c.K (tVar 2)) (gName 3) (tOr (tTest (tOp rEq (tVar 3) (tC (.int 0)))) (tTest (tOp rGeI (tVar 3) (tC (.int 3))))) (tVar 3) (List.map (fun (q : Str × Nat) => q.2) [(("call" : Str), 3)])) (gName 2)) tNext)
        (tRet (tOp rCat (tLst (tCons (tC (.int 0)) tNil)) (tVar 2))) { nx := fun _ H' => Q .non H', rt := Q } [some (V.ref a), some (.int (Vbbrac.turnOf s : Nat)), some (.ref p), none] H5 := fun H5 p l e5 h5 hl hLl => by
    have T5 := T.mono e5
    obtain ⟨mv, hmv, em⟩ := tv_mending Z T5
    have ret : ∀ (H6 : Hp) (p : Addr), Ex H H6 → H6 p = some (.lst (nV L)) → L.length ≤ 38 → tRet (tOp rCat (tLst (tCons (tC (.int 0)) tNil)) (tVar 2)) { nx := fun _ H' => Q .non H', rt := Q } [some (V.ref a), some (.int (Vbbrac.turnOf s : Nat)), some (.ref p), none] H6 := fun H6 p e6 h6 hl6 => by
      have ec : EvL (tOp rCat (tLst (tCons (tC (.int 0)) tNil)) (tVar 2)) [some (V.ref a), some (.int (Vbbrac.turnOf s : Nat)), some (.ref p), none] H6 ([.int (0 : Nat)] ++ nV L) := fun H7 e7 Q2 k2 =>
        (el_lst (vs := [.int (0 : Nat)]) (ea_cons ev_c ea_nil) (by show (1 : Nat) ≤ 100000; decide)) H7 e7 _ fun r H8 hr e8 h8 => ⟨.ref p, rfl, r, p, _, _, rfl, rfl, h8, e8 _ _ (e7 _ _ h6), sz_of (by rw [nV_len]; show 1 + _ ≤ 100000; omega), fun l2 hl2 => k2 l2 _ (fresh_back e8 hl2) (e8.trans (Ex.new hl2)) upd_same⟩
      exact s_retL ec fun p2 H7 hp2 e7 h7 => k p2 H7 (fresh_back e6 hp2) (e6.trans e7) h7
    refine q_if (b := s.mend.isSome) (et_is (et_test (ev_op (em _ _ (ev_var rfl)) ev_c rv_notN)) ?_) (fun hb H6 e6 => ?_) (fun hb H6 e6 => ?_)
    · cases q : s.mend with
      | none =>
        rw [q] at hmv
        obtain rfl : mv = .non := hmv
        rfl
      | some z =>
        rw [q] at hmv
        obtain ⟨pp, rfl, _⟩ := hmv
        rfl
    · rw [if_pos hb] at hLl
      have q2 := el_some (K := c.K) (σ := [some (V.ref a), some (.int (Vbbrac.turnOf s : Nat)), some (.ref p), none]) (H := H6) (t := tOr (tTest (tOp rEq (tVar 3) (tC (.int 0)))) (tTest (tOp rGeI (tVar 3) (tC (.int 3))))) (te := tVar 3) (tl := tVar 2) (j := 3) (vs := [3]) (l := l) (fun c => decide (c = 0) || decide (3 ≤ c)) (ev_var rfl) (SqL.of (e6 _ _ h5)) (by omega) (fun _ => rfl)
        (fun x H7 e7 => et_is (et_or (a := decide (V.int (x : Nat) = V.int 0)) (et_test (ev_op (ev_var rfl) ev_c (rv_eq rfl))) fun _ => et_test (ev_op (ev_var rfl) ev_c rv_I0)) (by rw [Bool.eq_iff_iff]; simp; omega)) (fun x H7 e7 => ev_var rfl)
      rw [hLl] at q2
      refine s_asgL q2 fun p2 H7 hp2 e7 h7 => ?_
      have hLlen : L.length ≤ 38 := by
        rw [← hLl]
        exact Nat.le_trans (List.length_filter_le _ _) hl
      exact ret H7 p2 ((e5.trans e6).trans e7) h7 hLlen
    · rw [if_neg (by rw [hb]; exact fun z => Bool.noConfusion z)] at hLl
      subst hLl
      exact ret H6 p (e5.trans e6) (e6 _ _ h5) hl
  refine q_if (b := s.barred.contains (Vbbrac.turnOf s) || s.once.contains (Vbbrac.turnOf s)) (et_B (ev_call (ea_cons (ev_var rfl) (ea_cons (ev_var rfl) ea_nil)) (RetSp.sv fun H5 e5 => ⟨a, A, s, _, Vbbrac.turnOf s, rfl, (T.mono e14).mono e5, ht3, rfl⟩))) (fun hb H5 e5 => ?_) (fun hb H5 e5 => ?_)
  · have q2 := el_some (K := c.K) (σ := [some (V.ref a), some (.int (Vbbrac.turnOf s : Nat)), some (.ref p0), none]) (H := H5) (t := tTest (tOp rEq (tVar 3) (tC (.int 0)))) (te := tVar 3) (tl := tVar 2) (j := 3) (vs := [3]) (l := Vbbrac.legals s.made (Vbbrac.turnOf s)) (fun c => decide (c = 0)) (ev_var rfl) (SqL.of (e5 _ _ h4)) (by omega) (fun _ => rfl)
      (fun x H7 e7 => et_is (et_test (ev_op (ev_var rfl) ev_c (rv_eq rfl))) (by rw [Bool.eq_iff_iff]; simp)) (fun x H7 e7 => ev_var rfl)
    refine s_asgL q2 fun p2 H6 hp2 e6 h6 => ?_
    refine last H6 p2 _ ((e14.trans e5).trans e6) h6 (Nat.le_trans (List.length_filter_le _ _) hl38) ?_
    rw [← hL]
    have e1 : ∀ x, (x == 0 || !(s.barred.contains (Vbbrac.turnOf s) || (s.once.contains (Vbbrac.turnOf s) || (s.mend.isSome && decide (x < 3))))) = decide (x = 0) := fun x => by
      rw [← Bool.or_assoc (s.barred.contains _), hb, Bool.true_or, Bool.not_true, Bool.or_false]
      rfl
    rw [List.filter_congr (fun x _ => e1 x)]
    split
    · rw [List.filter_filter]
      refine List.filter_congr fun x _ => ?_
      by_cases hx0 : x = 0 <;> simp [hx0]
    · rfl
  · refine last H5 p0 _ (e14.trans e5) (e5 _ _ h4) hl38 ?_
    rw [← hL]
    have e1 : ∀ x, (x == 0 || !(s.barred.contains (Vbbrac.turnOf s) || (s.once.contains (Vbbrac.turnOf s) || (s.mend.isSome && decide (x < 3))))) = (decide (x = 0) || !(s.mend.isSome && decide (x < 3))) := fun x => by
      rw [← Bool.or_assoc (s.barred.contains _), hb, Bool.false_or]
      rfl
    rw [List.filter_congr (fun x _ => e1 x)]
    cases s.mend.isSome with
    | true =>
      rw [if_pos rfl]
      refine List.filter_congr fun x _ => ?_
      rw [Bool.eq_iff_iff]
      simp
    | false =>
      rw [if_neg (by exact fun z => Bool.noConfusion z), List.filter_eq_self.mpr]
      intro x _
      simp
theorem pure_show_table (Z : Zs c) (vs : List V) (H : Hp) (Q : VK) (E : XK) (h : sp_ask c .table vs H Q E) : t_show_table c (sp_bound_number c) sp_doubled sp_is_over sp_last_bid sp_passes_at_end (sp_turn_of c) { nx := fun _ H' => Q .non H', rt := Q } (start ["table", "made", "over", "waits", "mends", "answer", "seat"] vs) H := by
  obtain ⟨v, F, s, rfl, tf, k⟩ := h
  have hst : Vbbrac.step s .table = if s.on = false then (s, [-3]) else act s .table := rfl
  rcases tf with ⟨off, rfl, rfl⟩ | ⟨d, w, a, A, R, hd, hw, rfl, rfl, T⟩
  · rw [hst, if_pos off] at k
    refine q_when (b := true) (et_test (ev_op (ev_var rfl) ev_c rv_isN0)) (fun _ H1 e1 => ?_) (fun hb H1 e1 => by cases hb)
    exact s_retL el1 fun p H2 hp e2 h2 => k p H2 (fresh_back e1 hp) (e1.trans e2) h2
  have I := R.inv
  have G0 := I.core.good
  rw [hst, if_neg (by rw [I.on]; exact fun z => Bool.noConfusion z)] at k
  refine q_when (b := false) (et_test (ev_op (ev_var rfl) ev_c rv_isNr)) (fun hb H1 e1 => by cases hb) (fun _ H1 e1 => ?_)
  have T1 := T.mono e1
  generalize hw8 : (match s.waits with
      | some x => x.1
      | none => 0) = nw
  generalize hm8 : (match s.mend with
      | some _ => 1
      | none => (0 : Nat)) = nm
  have k1 : RetL ((Vbbrac.ok ([Vbbrac.turnOf s, (match Vbbrac.lastBid s.made with
      | some x => x.2 + 1
      | none => 0), Vbbrac.doubled s.made, Vbbrac.passes s.made, if Vbbrac.over s.made = true then 1 else 0, nw, nm] ++ [0, 1, 2, 3].map fun p => if s.barred.contains p = true then 2 else if s.once.contains p = true then 1 else 0)).map V.int) H Q := by
    rw [← hw8, ← hm8]
    exact k
  clear k
  rw [ok_nV] at k1
  have hlb : (match Vbbrac.lastBid s.made with
      | some x => x.2 + 1
      | none => 0) = (lastI s.made + 1).toNat := by
    cases q : Vbbrac.lastBid s.made with
    | none => rw [lastI_none q]; rfl
    | some x => rw [lastI_some q]; show x.2 + 1 = _; omega
  rw [hlb] at k1
  have hli := G0.lastI
  refine q_asg (tv_made Z T1 (ev_var rfl)) fun H2 e2 => ?_
  have e12 := e1.trans e2
  have T2 := T.mono e12
  refine q_asg (v := .int ((if Vbbrac.over s.made = true then 1 else 0 : Nat) : Int)) (ev_if (b := Vbbrac.over s.made) (et_B (ev_call (ea_cons (ev_var rfl) ea_nil) (sv_is_over T2.made))) (fun hb => by rw [if_pos hb]; exact ev_c) (fun hb => by rw [if_neg (by rw [hb]; exact fun z => Bool.noConfusion z)]; exact ev_c)) fun H3 e3 => ?_
  have e13 := e12.trans e3
  have T3 := T.mono e13
  obtain ⟨wv, hwv, ew⟩ := tv_waiting Z T3
  refine q_asg (v := .int (nw : Nat)) (ev_if (b := s.waits.isNone) (et_is (et_test (ev_op (ew _ _ (ev_var rfl)) ev_c rv_isN)) ?_) (fun hb => ?_) (fun hb => ?_)) fun H4 e4 => ?_
  · cases q : s.waits with
    | none =>
      rw [q] at hwv
      obtain rfl : wv = .non := hwv
      rfl
    | some z =>
      rw [q] at hwv
      obtain ⟨pp, rfl, _⟩ := hwv
      rfl
  · cases q : s.waits with
    | none =>
      rw [q] at hw8
      subst hw8
      exact ev_c
    | some z =>
      rw [q] at hb
      cases hb
  · cases q : s.waits with
    | none =>
      rw [q] at hb
      cases hb
    | some z =>
      rw [q] at hw8 hwv
      subst hw8
      obtain ⟨pp, rfl, hpp⟩ := hwv
      exact ev_op (ew _ _ (ev_var rfl)) ev_c (rv_ixT (SqT.of hpp) rfl)
  have e14 := e13.trans e4
  have T4 := T.mono e14
  obtain ⟨mv, hmv, em⟩ := tv_mending Z T4
  refine q_asg (v := .int (nm : Nat)) (ev_if (b := s.mend.isNone) (et_is (et_test (ev_op (em _ _ (ev_var rfl)) ev_c rv_isN)) ?_) (fun hb => ?_) (fun hb => ?_)) fun H5 e5 => ?_
  · cases q : s.mend with
    | none =>
      rw [q] at hmv
      obtain rfl : mv = .non := hmv
      rfl
    | some z =>
      rw [q] at hmv
      obtain ⟨pp, rfl, _⟩ := hmv
      rfl
  · cases q : s.mend with
    | none =>
      rw [q] at hm8
      subst hm8
      exact ev_c
    | some z =>
      rw [q] at hb
      cases hb
  · cases q : s.mend with
    | none =>
      rw [q] at hb
      cases hb
    | some z =>
      rw [q] at hm8
      subst hm8
      exact ev_c
  have e15 := e14.trans e5
  have T5 := T.mono e15
  generalize hbase : [0, Vbbrac.turnOf s, (lastI s.made + 1).toNat, Vbbrac.doubled s.made, Vbbrac.passes s.made, (if Vbbrac.over s.made = true then 1 else 0), nw, nm] = base
  have hbl : base.length = 8 := by rw [← hbase]; rfl
  refine q_asgL (xs := nV base) ?_ fun l H6 hl e6 h6 => ?_
  · rw [← hbase]
    exact el_lst (ea_cons ev_c (ea_cons (ev_call (ea_cons (ev_var rfl) ea_nil) (RetSp.sv fun H7 e7 => ⟨a, A, s, _, rfl, T5.mono e7, rfl⟩)) (ea_cons (ev_is (ev_op (ev_call (ea_cons (ev_var rfl) ea_nil) (sv_last_bid T5.made)) ev_c rv_I0) (by congr 1; omega)) (ea_cons (ev_call (ea_cons (ev_var rfl) ea_nil) (sv_doubled T5.made)) (ea_cons (ev_call (ea_cons (ev_var rfl) ea_nil) (sv_passes_at_end T5.made)) (ea_cons (ev_var rfl) (ea_cons (ev_var rfl) (ea_cons (ev_var rfl) ea_nil)))))))) (by show (8 : Nat) ≤ 100000; decide)
  have hl0 := fresh_back e15 hl
  refine q_forR1 (n := 4) (ea_cons ev_c ea_nil) (by omega) (fun i σ' H' => ∃ y6, σ' = [some (V.ref a), some (.ref A.am), some (.int ((if Vbbrac.over s.made = true then 1 else 0 : Nat) : Int)), some (.int (nw : Nat)), some (.int (nm : Nat)), some (.ref l), y6] ∧ Ex H5 H' ∧ H' l = some (.lst (nV (base ++ ([0, 1, 2, 3].take i).map fun p => if s.barred.contains p = true then 2 else if s.once.contains p = true then 1 else 0))))
    (fun H7 e7 => ⟨none, rfl, e6.trans e7, by rw [List.take_zero, List.map_nil, List.append_nil]; exact e7 _ _ h6⟩) ?_ ?_
  · rintro i σ' H' hi ⟨y6, rfl, q1, q2⟩
    have hi4 : i < 4 := by omega
    refine s_app q2 (ev_var rfl) (v := .int ((if s.barred.contains i = true then 2 else if s.once.contains i = true then 1 else 0 : Nat) : Int)) (ev_call (ea_cons (ev_var rfl) (ea_cons (ev_is (w := .int (i : Nat)) (ev_var rfl) (by simp)) ea_nil)) (RetSp.sv fun H7 e7 => ⟨a, A, s, _, i, rfl, (T5.mono q1).mono e7, by omega, rfl⟩)) (by
      rw [nV_len, List.length_append, List.length_map, List.length_take, hbl]
      omega) fun H7 e7 => ?_
    refine ⟨_, rfl, (q1.trans e7).mut hl, ?_⟩
    rw [upd_same]
    have et : ([0, 1, 2, 3] : List Nat).take (i + 1) = ([0, 1, 2, 3] : List Nat).take i ++ [i] := by
      have : i = 0 ∨ i = 1 ∨ i = 2 ∨ i = 3 := by omega
      rcases this with rfl | rfl | rfl | rfl <;> rfl
    rw [et, List.map_append, ← List.append_assoc, nV_append _ (List.map _ [i])]
    rfl
  · rintro σ' H' ⟨y6, rfl, q1, q2⟩
    refine s_ret (ev_var rfl) fun H7 e7 => k1 l H7 hl0 ((e15.trans q1).trans e7) ?_
    rw [e7 _ _ q2, ← hbase]
    rfl
theorem pure_nth (Z : Zs c) (vs : List V) (H : Hp) (Q : VK) (E : XK) (h : sp_nth c vs H Q E) : t_nth c (sp_are_bytes c) sp_auction_with_number (sp_bytes_of_auction c) (sp_value_of_numeral c) { nx := fun _ H' => Q .non H', rt := Q } (start ["dealer", "numbers", "value", "calls"] vs) H := by
  obtain ⟨s, d, b, t, rfl, hs, hl, k⟩ := h
  have er : ranged (.nth d t) = ((decide (0 ≤ d) && decide (d ≤ 3)) && Vbbrac.isBytes t) := rfl
  refine q_when (b := !ranged (.nth d t)) (et_is (et_or (a := !(decide (0 ≤ d) && decide (d ≤ 3))) (et_not (et_test (ev_chain ev_c (ev_var rfl) rv_I0 ev_c rv_I0))) fun _ => et_not (et_B (ev_call (ea_cons (ev_var rfl) ea_nil) (sv_are_bytes hs (by omega))))) (by rw [er]; simp only [Bool.not_and, Bool.or_assoc])) (fun hb H1 e1 => ?_) (fun hb H1 e1 => ?_)
  · have hb : ranged (.nth d t) = false := by simpa using hb
    rw [step_bad hb] at k
    exact s_retL el1 fun p H2 hp e2 h2 => k p H2 (fresh_back e1 hp) (e1.trans e2) h2
  have hb : ranged (.nth d t) = true := by simpa using hb
  have hst : Vbbrac.step s (.nth d t) = if Vbbrac.isNumeral (Vbbrac.nats t) = false then (s, [-12]) else if Vbbrac.BIGGEST ≤ Vbbrac.numeral (Vbbrac.nats t) then (s, [-13]) else (s, Vbbrac.ok (Vbbrac.textOf (Vbbrac.nth d.toNat 320 [] (Vbbrac.numeral (Vbbrac.nats t))))) := by
    unfold Vbbrac.step
    rw [if_neg (by rw [hb]; exact fun z => Bool.noConfusion z)]
  rw [er] at hb
  simp at hb
  obtain ⟨n, rfl⟩ := nat_of hb.1.1
  have hn : n ≤ 3 := by omega
  rw [hst, Int.toNat_natCast, biggest] at k
  rw [bytes_nV hb.2] at hs
  clear hst
  refine q_asg (ev_call (ea_cons (ev_var rfl) ea_nil) (sv_value_of_numeral (ex_l e1 hs))) fun H2 e2 => ?_
  have e12 := e1.trans e2
  unfold oNum
  by_cases hnum : Vbbrac.isNumeral (Vbbrac.nats t) = true
  · rw [if_neg (by rw [hnum]; exact fun z => Bool.noConfusion z)] at k
    rw [if_pos hnum]
    generalize Vbbrac.numeral (Vbbrac.nats t) = x at k
    refine q_when (b := false) (et_test (ev_op (ev_var (v := .int (x : Nat)) rfl) ev_c rv_isNi)) (fun hb H1 e1 => by cases hb) (fun _ H3 e3 => ?_)
    have e13 := e12.trans e3
    by_cases hbig : waysP first ≤ x
    · rw [if_pos hbig] at k
      refine q_asg (v := .non) (ev_call (ea_cons (ev_var rfl) ea_nil) fun H4 e4 Q2 k2 E2 => ⟨x, rfl, .inl ⟨hbig, fun H5 e5 => k2 H5 e5⟩⟩) fun H4 e4 => ?_
      refine q_when (b := true) (et_test (ev_op (ev_var rfl) ev_c rv_isN0)) (fun _ H5 e5 => ?_) (fun hb H1 e1 => by cases hb)
      exact s_retL el1 fun p H6 hp e6 h6 => k p H6 (fresh_back ((e13.trans e4).trans e5) hp) (((e13.trans e4).trans e5).trans e6) h6
    · rw [if_neg hbig, ok_nV, walk_text hn (by omega)] at k
      refine q_asgL (xs := nV (walkP 320 first x)) (el_call (ea_cons (ev_var rfl) ea_nil) fun H4 e4 Q2 k2 E2 => ⟨x, rfl, .inr ⟨by omega, fun p H5 hp e5 h5 => k2 p H5 hp e5 h5⟩⟩) fun p0 H4 hp0 e4 h4 => ?_
      refine q_when (b := false) (et_test (ev_op (ev_var (v := .ref p0) rfl) ev_c rv_isNr)) (fun hb H1 e1 => by cases hb) (fun _ H5 e5 => ?_)
      obtain ⟨w1, w2⟩ := walk_le 320 first x (by decide) (by decide)
      have e15 := (e13.trans e4).trans e5
      have hlen : ∀ l : List Nat, (Vbbrac.joined (l.map Vbbrac.callText)).length ≤ 3 * l.length := by
        intro l
        induction l with
        | nil => exact Nat.le_refl _
        | cons x r ih =>
          have h2 := (callText_len x).2
          cases r with
          | nil =>
            show (Vbbrac.callText x).length ≤ 3 * 1
            omega
          | cons y r =>
            show (Vbbrac.callText x ++ 32 :: Vbbrac.joined ((y :: r).map Vbbrac.callText)).length ≤ _
            rw [List.length_append, List.length_cons]
            simp only [List.length_cons] at ih ⊢
            omega
      have h3 := hlen (walkP 320 first x)
      refine s_retL (el_cat (xs := [.int (0 : Nat)]) (el_lst (ea_cons ev_c ea_nil) (by show (1 : Nat) ≤ 100000; decide)) (el_call (ea_cons (ev_var rfl) ea_nil) (sl_bytes_of_auction (SqL.of (e5 _ _ h4)) (by omega) w2)) (by show 1 + (nV (Vbbrac.joined _)).length ≤ 100000; rw [nV_len]; omega)) fun p H6 hp e6 h6 => k p H6 (fresh_back e15 hp) (e15.trans e6) h6
  · rw [if_pos (by simpa using hnum)] at k
    rw [if_neg hnum]
    refine q_when (b := true) (et_test (ev_op (ev_var rfl) ev_c rv_isN0)) (fun _ H3 e3 => ?_) (fun hb H1 e1 => by cases hb)
    exact s_retL el1 fun p H4 hp e4 h4 => k p H4 (fresh_back (e12.trans e3) hp) ((e12.trans e3).trans e4) h4
theorem pure_asked_answer (Z : Zs c) (vs : List V) (H : Hp) (Q : VK) (E : XK) (h : sp_asked_answer c vs H Q E) : t_asked_answer c (sp_ask c .text) (sp_ask c .made) (sp_ask c .contract) (sp_ask c .legals) (sp_ask c .longest) (sp_ask c .number) (sp_ask c .table) (sp_ask c .ways) { nx := fun _ H' => Q .non H', rt := Q } (start ["table", "place"] vs) H := by
  obtain ⟨v, F, s, x, q, rfl, tf, hx, k⟩ := h
  have go : ∀ (q' : Vbbrac.Call) (H1 : Hp), q' = q → Ex H H1 → tRet (tCall (sp_ask c q') [] E0 (tCons (tVar 0) tNil)) { nx := fun _ H' => Q .non H', rt := Q } [some v, some (.int x)] H1 := fun q' H1 eq e1 => by
    subst eq
    exact s_retL (el_call (ea_cons (ev_var rfl) ea_nil) (sl_ask (tf.mono e1))) fun p H2 hp e2 h2 => k p H2 (fresh_back e1 hp) (e1.trans e2) h2
  have no : ∀ (n : Int) {H1 : Hp} {tu : TS} {tz : TS} {D : Ends}, x ≠ n → (∀ H2, Ex H1 H2 → tz D [some v, some (.int x)] H2) → tSeq (tIfS (tTest (tOp rEq (tVar 1) (tC (.int n)))) tu tNext) tz D [some v, some (.int x)] H1 := fun n {H1 tu tz D} hn kk =>
    q_when (b := false) (et_is (et_test (ev_op (ev_var rfl) ev_c (rv_eq rfl))) (by simpa using hn)) (fun hb H1 e1 => by cases hb) (fun _ H2 e2 => kk H2 e2)
  have yes : ∀ (n : Int) {H1 : Hp} {tu : TS} {tz : TS} {D : Ends}, x = n → (∀ H2, Ex H1 H2 → tu { D with nx := tz D } [some v, some (.int x)] H2) → tSeq (tIfS (tTest (tOp rEq (tVar 1) (tC (.int n)))) tu tNext) tz D [some v, some (.int x)] H1 := fun n {H1 tu tz D} hn kk =>
    q_when (b := true) (et_is (et_test (ev_op (ev_var rfl) ev_c (rv_eq rfl))) (by simpa using hn)) (fun _ H2 e2 => kk H2 e2) (fun hb H1 e1 => by cases hb)
  rcases hx with ⟨rfl, rfl⟩ | ⟨rfl, rfl⟩ | ⟨rfl, rfl⟩ | ⟨rfl, rfl⟩ | ⟨rfl, rfl⟩ | ⟨rfl, rfl⟩ | ⟨rfl, rfl⟩ | ⟨rfl, rfl⟩
  · refine yes 5 rfl fun G1 g1 => ?_
    exact go _ _ rfl g1
  · refine no 5 (by decide) fun G1 g1 => ?_
    refine yes 6 rfl fun G2 g2 => ?_
    exact go _ _ rfl (g1.trans g2)
  · refine no 5 (by decide) fun G1 g1 => ?_
    refine no 6 (by decide) fun G2 g2 => ?_
    refine yes 7 rfl fun G3 g3 => ?_
    exact go _ _ rfl ((g1.trans g2).trans g3)
  · refine no 5 (by decide) fun G1 g1 => ?_
    refine no 6 (by decide) fun G2 g2 => ?_
    refine no 7 (by decide) fun G3 g3 => ?_
    refine yes 8 rfl fun G4 g4 => ?_
    exact go _ _ rfl (((g1.trans g2).trans g3).trans g4)
  · refine no 5 (by decide) fun G1 g1 => ?_
    refine no 6 (by decide) fun G2 g2 => ?_
    refine no 7 (by decide) fun G3 g3 => ?_
    refine no 8 (by decide) fun G4 g4 => ?_
    refine yes 9 rfl fun G5 g5 => ?_
    exact go _ _ rfl ((((g1.trans g2).trans g3).trans g4).trans g5)
  · refine no 5 (by decide) fun G1 g1 => ?_
    refine no 6 (by decide) fun G2 g2 => ?_
    refine no 7 (by decide) fun G3 g3 => ?_
    refine no 8 (by decide) fun G4 g4 => ?_
    refine no 9 (by decide) fun G5 g5 => ?_
    refine yes 10 rfl fun G6 g6 => ?_
    exact go _ _ rfl (((((g1.trans g2).trans g3).trans g4).trans g5).trans g6)
  · refine no 5 (by decide) fun G1 g1 => ?_
    refine no 6 (by decide) fun G2 g2 => ?_
    refine no 7 (by decide) fun G3 g3 => ?_
    refine no 8 (by decide) fun G4 g4 => ?_
    refine no 9 (by decide) fun G5 g5 => ?_
    refine no 10 (by decide) fun G6 g6 => ?_
    refine yes 12 rfl fun G7 g7 => ?_
    exact go _ _ rfl ((((((g1.trans g2).trans g3).trans g4).trans g5).trans g6).trans g7)
  · refine no 5 (by decide) fun G1 g1 => ?_
    refine no 6 (by decide) fun G2 g2 => ?_
    refine no 7 (by decide) fun G3 g3 => ?_
    refine no 8 (by decide) fun G4 g4 => ?_
    refine no 9 (by decide) fun G5 g5 => ?_
    refine no 10 (by decide) fun G6 g6 => ?_
    refine no 12 (by decide) fun G7 g7 => ?_
    exact go _ _ rfl ((((((g1.trans g2).trans g3).trans g4).trans g5).trans g6).trans g7)

end G
namespace G
open PySem PySem.Spec PyProof.Rows L2 Evl
open Vbbrac (State)

theorem whole_id (c : List (List Int)) : PyVbbrac.whole c = c := by
  unfold PyVbbrac.whole
  split <;> rfl
def shL : List (Int × Int) := [(2, 0), (1, 0), (2, 0), (1, 0), (1, 0), (0, 0), (0, 0), (0, 0), (0, 0), (0, 0), (0, 0), (1, 1), (0, 0), (1, 1), (2, 1), (0, 0), (2, 0)]
/-- what is known of a place -/
def PlaceIs (p : Int) (n k : Nat) : Prop := (∃ i : Nat, p = (i : Int) ∧ shL[i]? = some ((n : Int), (k : Int))) ∧ k ≤ 1 ∧
  ∀ (nums : List Int) (rows : List (List Int)), nums.length = n → rows.length = k → VbbracNeutral.asked1 ((p :: nums) :: rows) = true → ∃ q, VbbracNeutral.callOf ((p :: nums) :: rows) = some q ∧ CallIs (rows.headD []) (p :: nums) q ∧ (rows.headD []).length ≤ 1000
theorem asked_len {a b : Bool} {t : List Int} {n : Nat} (h : (a && (decide (t.length ≤ n) && b)) = true) : t.length ≤ n := by
  simp at h
  exact h.2.1
theorem asked_len2 {a b c : Bool} {t : List Int} {n : Nat} (h : (a && (b && (decide (t.length ≤ n) && c))) = true) : t.length ≤ n := by
  simp at h
  exact h.2.2.1
theorem place_0 : PlaceIs 0 2 0 := ⟨⟨0, rfl, rfl⟩, by omega, fun nums rows h1 h2 h => match nums, rows, h1, h2, h with
  | [a, b], [], _, _, h => ⟨.deal a b, rfl, .deal a b, Nat.zero_le _⟩⟩
theorem place_1 : PlaceIs 1 1 0 := ⟨⟨1, rfl, rfl⟩, by omega, fun nums rows h1 h2 h => match nums, rows, h1, h2, h with
  | [a], [], _, _, h => ⟨.board a, rfl, .board a, Nat.zero_le _⟩⟩
theorem place_2 : PlaceIs 2 2 0 := ⟨⟨2, rfl, rfl⟩, by omega, fun nums rows h1 h2 h => match nums, rows, h1, h2, h with
  | [a, b], [], _, _, h => ⟨.call a b, rfl, .call a b, Nat.zero_le _⟩⟩
theorem place_3 : PlaceIs 3 1 0 := ⟨⟨3, rfl, rfl⟩, by omega, fun nums rows h1 h2 h => match nums, rows, h1, h2, h with
  | [a], [], _, _, h => ⟨.decide a, rfl, .decide a, Nat.zero_le _⟩⟩
theorem place_4 : PlaceIs 4 1 0 := ⟨⟨4, rfl, rfl⟩, by omega, fun nums rows h1 h2 h => match nums, rows, h1, h2, h with
  | [a], [], _, _, h => ⟨.undo a, rfl, .undo a, Nat.zero_le _⟩⟩
theorem place_5 : PlaceIs 5 0 0 := ⟨⟨5, rfl, rfl⟩, by omega, fun nums rows h1 h2 h => match nums, rows, h1, h2, h with
  | [], [], _, _, h => ⟨.table, rfl, .ask 5 .table (by unfold AskIs; simp), Nat.zero_le _⟩⟩
theorem place_6 : PlaceIs 6 0 0 := ⟨⟨6, rfl, rfl⟩, by omega, fun nums rows h1 h2 h => match nums, rows, h1, h2, h with
  | [], [], _, _, h => ⟨.legals, rfl, .ask 6 .legals (by unfold AskIs; simp), Nat.zero_le _⟩⟩
theorem place_7 : PlaceIs 7 0 0 := ⟨⟨7, rfl, rfl⟩, by omega, fun nums rows h1 h2 h => match nums, rows, h1, h2, h with
  | [], [], _, _, h => ⟨.contract, rfl, .ask 7 .contract (by unfold AskIs; simp), Nat.zero_le _⟩⟩
theorem place_8 : PlaceIs 8 0 0 := ⟨⟨8, rfl, rfl⟩, by omega, fun nums rows h1 h2 h => match nums, rows, h1, h2, h with
  | [], [], _, _, h => ⟨.ways, rfl, .ask 8 .ways (by unfold AskIs; simp), Nat.zero_le _⟩⟩
theorem place_9 : PlaceIs 9 0 0 := ⟨⟨9, rfl, rfl⟩, by omega, fun nums rows h1 h2 h => match nums, rows, h1, h2, h with
  | [], [], _, _, h => ⟨.longest, rfl, .ask 9 .longest (by unfold AskIs; simp), Nat.zero_le _⟩⟩
theorem place_10 : PlaceIs 10 0 0 := ⟨⟨10, rfl, rfl⟩, by omega, fun nums rows h1 h2 h => match nums, rows, h1, h2, h with
  | [], [], _, _, h => ⟨.number, rfl, .ask 10 .number (by unfold AskIs; simp), Nat.zero_le _⟩⟩
theorem place_11 : PlaceIs 11 1 1 := ⟨⟨11, rfl, rfl⟩, by omega, fun nums rows h1 h2 h => match nums, rows, h1, h2, h with
  | [a], [t], _, _, h => ⟨.nth a t, rfl, .nth a, Nat.le_trans (asked_len (a := VbbracNeutral.whole60 a) (n := 60) h) (by omega)⟩⟩
theorem place_12 : PlaceIs 12 0 0 := ⟨⟨12, rfl, rfl⟩, by omega, fun nums rows h1 h2 h => match nums, rows, h1, h2, h with
  | [], [], _, _, h => ⟨.text, rfl, .ask 12 .text (by unfold AskIs; simp), Nat.zero_le _⟩⟩
theorem place_13 : PlaceIs 13 1 1 := ⟨⟨13, rfl, rfl⟩, by omega, fun nums rows h1 h2 h => match nums, rows, h1, h2, h with
  | [a], [t], _, _, h => ⟨.look a t, rfl, .look a, Nat.le_trans (asked_len (a := VbbracNeutral.whole60 a) (n := 1000) h) (by omega)⟩⟩
theorem place_14 : PlaceIs 14 2 1 := ⟨⟨14, rfl, rfl⟩, by omega, fun nums rows h1 h2 h => match nums, rows, h1, h2, h with
  | [a, b], [t], _, _, h => ⟨.read a b t, rfl, .read a b, asked_len2 (a := VbbracNeutral.whole60 a) (b := VbbracNeutral.whole60 b) (n := 1000) h⟩⟩
theorem place_15 : PlaceIs 15 0 0 := ⟨⟨15, rfl, rfl⟩, by omega, fun nums rows h1 h2 h => match nums, rows, h1, h2, h with
  | [], [], _, _, h => ⟨.made, rfl, .ask 15 .made (by unfold AskIs; simp), Nat.zero_le _⟩⟩
theorem place_16 : PlaceIs 16 2 0 := ⟨⟨16, rfl, rfl⟩, by omega, fun nums rows h1 h2 h => match nums, rows, h1, h2, h with
  | [a, b], [], _, _, h => ⟨.named a b, rfl, .named a b, Nat.zero_le _⟩⟩
theorem shape_is {p : Int} {n k : Nat} (h : PyVbbrac.shape p = some (n, k)) : PlaceIs p n k := by
  unfold PyVbbrac.shape at h
  by_cases h0 : p = 0
  · rw [if_pos h0] at h
    cases h
    subst h0
    exact place_0
  rw [if_neg h0] at h
  by_cases h1 : p = 1
  · rw [if_pos h1] at h
    cases h
    subst h1
    exact place_1
  rw [if_neg h1] at h
  by_cases h2 : p = 2
  · rw [if_pos h2] at h
    cases h
    subst h2
    exact place_2
  rw [if_neg h2] at h
  by_cases h3 : p = 3
  · rw [if_pos h3] at h
    cases h
    subst h3
    exact place_3
  rw [if_neg h3] at h
  by_cases h4 : p = 4
  · rw [if_pos h4] at h
    cases h
    subst h4
    exact place_4
  rw [if_neg h4] at h
  by_cases h5 : p = 5
  · rw [if_pos h5] at h
    cases h
    subst h5
    exact place_5
  rw [if_neg h5] at h
  by_cases h6 : p = 6
  · rw [if_pos h6] at h
    cases h
    subst h6
    exact place_6
  rw [if_neg h6] at h
  by_cases h7 : p = 7
  · rw [if_pos h7] at h
    cases h
    subst h7
    exact place_7
  rw [if_neg h7] at h
  by_cases h8 : p = 8
  · rw [if_pos h8] at h
    cases h
    subst h8
    exact place_8
  rw [if_neg h8] at h
  by_cases h9 : p = 9
  · rw [if_pos h9] at h
    cases h
    subst h9
    exact place_9
  rw [if_neg h9] at h
  by_cases h10 : p = 10
  · rw [if_pos h10] at h
    cases h
    subst h10
    exact place_10
  rw [if_neg h10] at h
  by_cases h11 : p = 11
  · rw [if_pos h11] at h
    cases h
    subst h11
    exact place_11
  rw [if_neg h11] at h
  by_cases h12 : p = 12
  · rw [if_pos h12] at h
    cases h
    subst h12
    exact place_12
  rw [if_neg h12] at h
  by_cases h13 : p = 13
  · rw [if_pos h13] at h
    cases h
    subst h13
    exact place_13
  rw [if_neg h13] at h
  by_cases h14 : p = 14
  · rw [if_pos h14] at h
    cases h
    subst h14
    exact place_14
  rw [if_neg h14] at h
  by_cases h15 : p = 15
  · rw [if_pos h15] at h
    cases h
    subst h15
    exact place_15
  rw [if_neg h15] at h
  by_cases h16 : p = 16
  · rw [if_pos h16] at h
    cases h
    subst h16
    exact place_16
  rw [if_neg h16] at h
  cases h
theorem row_is {l : List Int} {x t : List Int} (h : PyFlat.row l = some (x, t)) : ∃ m r, l = ((m : Nat) : Int) :: r ∧ m ≤ r.length ∧ x = r.take m ∧ t = r.drop m := by
  cases l with
  | nil => cases h
  | cons n r =>
    unfold PyFlat.row at h
    dsimp only at h
    by_cases q : 0 ≤ n ∧ n.toNat ≤ r.length
    · rw [if_pos q] at h
      cases h
      obtain ⟨m, rfl⟩ := nat_of q.1
      exact ⟨m, r, rfl, q.2, rfl, rfl⟩
    · rw [if_neg q] at h
      cases h
/-- the first of the calls of a list -/
theorem calls_cons {f : Nat} {p : Int} {r : List Int} {cs : List (List (List Int))} (h : PyFlat.calls PyVbbrac.shape f (p :: r) = some cs) :
    ∃ n k f' t cs', PlaceIs p n k ∧ n ≤ r.length ∧ PyFlat.calls PyVbbrac.shape f' t = some cs' ∧
      ((k = 0 ∧ t = r.drop n ∧ cs = [p :: r.take n] :: cs') ∨ (k = 1 ∧ ∃ (m : Nat) (r' : List Int), r.drop n = (m : Int) :: r' ∧ m ≤ r'.length ∧ t = r'.drop m ∧ cs = [p :: r.take n, r'.take m] :: cs')) := by
  cases f with
  | zero => cases h
  | succ f =>
    unfold PyFlat.calls at h
    cases hc : PyFlat.call PyVbbrac.shape (p :: r) with
    | none =>
      rw [hc] at h
      cases h
    | some ct =>
      obtain ⟨c, t⟩ := ct
      rw [hc] at h
      dsimp only at h
      cases hcs : PyFlat.calls PyVbbrac.shape f t with
      | none =>
        rw [hcs] at h
        cases h
      | some cs' =>
        rw [hcs] at h
        have ecs : cs = c :: cs' := (Option.some.inj h).symm
        unfold PyFlat.call at hc
        dsimp only at hc
        cases hsh : PyVbbrac.shape p with
        | none =>
          rw [hsh] at hc
          cases hc
        | some nk =>
          obtain ⟨n, k⟩ := nk
          rw [hsh] at hc
          dsimp only at hc
          have P := shape_is hsh
          by_cases hn : r.length < n
          · rw [if_pos hn] at hc
            cases hc
          · rw [if_neg hn] at hc
            have hk : k = 0 ∨ k = 1 := by have := P.2.1; omega
            refine ⟨n, k, f, t, cs', P, by omega, hcs, ?_⟩
            rcases hk with rfl | rfl
            · left
              have hr : PyFlat.rows 0 (r.drop n) = some ([], r.drop n) := rfl
              rw [hr] at hc
              have e := Option.some.inj hc
              have e1 : [p :: r.take n] = c := congrArg Prod.fst e
              have e2 : r.drop n = t := congrArg Prod.snd e
              exact ⟨rfl, e2.symm, by rw [ecs, ← e1]⟩
            · right
              refine ⟨rfl, ?_⟩
              have hr : PyFlat.rows 1 (r.drop n) = match PyFlat.row (r.drop n) with
                | none => none
                | some (x, s) => some ([x], s) := rfl
              rw [hr] at hc
              cases hrow : PyFlat.row (r.drop n) with
              | none =>
                rw [hrow] at hc
                cases hc
              | some xs =>
                obtain ⟨x, s⟩ := xs
                rw [hrow] at hc
                have e := Option.some.inj hc
                have e1 : [p :: r.take n, x] = c := congrArg Prod.fst e
                have e2 : s = t := congrArg Prod.snd e
                obtain ⟨m, r', a1, a2, a3, a4⟩ := row_is hrow
                exact ⟨m, r', a1, a2, by rw [← e2, a4], by rw [ecs, ← e1, a3]⟩
theorem cut_two (xs : List V) (lo hi : Nat) (h1 : lo ≤ xs.length) (h2 : hi ≤ xs.length) : cutV xs (some (lo : Int)) (some (hi : Int)) = (xs.drop lo).take (hi - lo) := by
  unfold cutV
  rw [HT.sIx_nat, HT.sIx_nat, Nat.min_eq_left h1, Nat.min_eq_left h2]
end G
namespace G
open PySem PySem.Spec PyProof.Rows L2 Evl
open Vbbrac (State)
local macro_rules | `(tactic| walk_at "ea") => `(tactic| first
  | with_reducible exact ea_nil
  | ((with_reducible refine' ea_cons ?eah ?eat); (case eah => walk_at "ev"); (case eat => walk_at "ea")))
local macro_rules | `(tactic| walk_at "rv") => `(tactic| first
  | with_reducible exact rv_I0
  | with_reducible exact rv_isN0
  | with_reducible exact rv_isNr
  | with_reducible exact rv_isNi
  | with_reducible exact rv_notN0
  | with_reducible exact rv_notNr
  | with_reducible exact rv_notNi
  | with_reducible exact rv_isN
  | with_reducible exact rv_notN
  | ((with_reducible refine' rv_eq ?rve); (case rve => rfl))
  | ((with_reducible refine' rv_ne ?rve); (case rve => rfl))
  | ((with_reducible refine' rv_I ?rve); (case rve => first | (exact (by decide)) | ((try dsimp only); first | decide | omega))))
local macro_rules | `(tactic| walk_at "ev") => `(tactic| first
  | with_reducible assumption
  | ((with_reducible refine' ev_var ?e0); (case e0 => exact rfl))
  | with_reducible exact ev_c
  | ((with_reducible refine' ev_op ?e1 ?e2 ?e3); (case e1 => walk_at "ev"); (case e2 => walk_at "ev"); (case e3 => walk_at "rv"))
  | ((with_reducible refine' ev_un ?e1 ru_neg); (case e1 => walk_at "ev"))
  | ((with_reducible refine' ev_call ?ca ?cb); (case ca => walk_at "ea"); (case cb => walk_at "gsp"))
  | ((with_reducible refine' ev_chain ?e1 ?e2 ?e3 ?e4 ?e5); (case e1 => walk_at "ev"); (case e2 => walk_at "ev"); (case e3 => walk_at "rv"); (case e4 => walk_at "ev"); (case e5 => walk_at "rv"))
  | ((with_reducible refine' ev_notV ?e1); (case e1 => walk_at "ev"))
  | fail "ev")
local macro_rules | `(tactic| walk_at "et") => `(tactic| first
  | with_reducible assumption
  | ((with_reducible refine' et_test ?e1); (case e1 => walk_at "ev"))
  | ((with_reducible refine' et_B ?e1); (case e1 => walk_at "ev"))
  | ((with_reducible refine' et_and ?e1 (fun hqq => ?e2)); (case e1 => walk_at "et"); (case e2 => walk_at "et"))
  | ((with_reducible refine' et_or ?e1 (fun hqq => ?e2)); (case e1 => walk_at "et"); (case e2 => walk_at "et"))
  | ((with_reducible refine' et_not ?e1); (case e1 => walk_at "et"))
  | fail "et")
local macro_rules | `(tactic| walk_at "nx") => `(tactic| ((try dsimp only); refine nx_of ?_))
local macro_rules | `(tactic| walk_at "xset") => `(tactic| (refine' x_set ?xe ?xk; (case xe => walk_at "ev")))
local macro_rules | `(tactic| walk_at "xasg") => `(tactic| (refine' x_asg ?xe ?xk; (case xe => walk_at "ev")))
local macro_rules | `(tactic| walk_at "xret") => `(tactic| (refine' x_ret ?xe ?xk; (case xe => walk_at "ev")))
local macro_rules | `(tactic| walk_at "xwhen") => `(tactic| (refine' x_when ?xe ?xk ?xl; (case xe => walk_at "et")))
local macro_rules | `(tactic| walk_at "xif") => `(tactic| (refine' x_if ?xe ?xk ?xl; (case xe => walk_at "et")))
local macro_rules | `(tactic| walk_at "xif2") => `(tactic| (refine' x_if2 ?xe ?xk ?xl; (case xe => walk_at "et")))
variable {c : Cn}
theorem s_stp {sp : Sp} {ta : TA} {vs : List V} {D : Ends} {σ : L2.St} {H : Hp} (h : EvA ta σ H vs) (k : ∀ H1, Ex H H1 → ∀ E, sp (vs ++ []) H1 D.rt E) : tRet (tCall sp [] E0 ta) D σ H := h H (Ex.refl H) _ fun H1 e1 => k H1 e1 _
theorem no_at {j : Nat} {σ : L2.St} {x n : Int} {H1 : Hp} {tu tz : TS} {D : Ends} (h3 : σ[j]? = some (some (.int x))) (hn : x ≠ n) (k : ∀ H2, Ex H1 H2 → tz D σ H2) : tSeq (tIfS (tTest (tOp rEq (tVar j) (tC (.int n)))) tu tNext) tz D σ H1 :=
  q_when (b := false) (et_is (et_test (ev_op (ev_var h3) ev_c (rv_eq rfl))) (by simpa using hn)) (fun hb H1 e1 => by cases hb) (fun _ H2 e2 => k H2 e2)
theorem yes_at {j : Nat} {σ : L2.St} {x n : Int} {H1 : Hp} {tu tz : TS} {D : Ends} (h3 : σ[j]? = some (some (.int x))) (hn : x = n) (k : ∀ H2, Ex H1 H2 → tu { D with nx := tz D } σ H2) : tSeq (tIfS (tTest (tOp rEq (tVar j) (tC (.int n)))) tu tNext) tz D σ H1 :=
  q_when (b := true) (et_is (et_test (ev_op (ev_var h3) ev_c (rv_eq rfl))) (by simpa using hn)) (fun _ H2 e2 => k H2 e2) (fun hb H1 e1 => by cases hb)
theorem StepQ.grow {as : Addr} {F : List Addr} {H H1 : Hp} {r : State × List Int} {Q : VK} (k : StepQ c as F H r Q) (e1 : Ex H H1) : StepQ c as F H1 r Q := fun p2 H' F2 a1 a2 a3 a4 a5 =>
  k p2 H' F2 a1 a2 (a3.imp id fun z => fresh_back e1 z) ((Keep.of_ex e1).trans a4) fun x hx => (a5 x hx).imp id fun z => fresh_back e1 z
theorem ask_same {s : State} {x : Int} {q : Vbbrac.Call} (h : AskIs x q) : Vbbrac.step s q = (s, (Vbbrac.step s q).2) := by
  have key : ∀ q', (q' = .table ∨ q' = .legals ∨ q' = .contract ∨ q' = .ways ∨ q' = .longest ∨ q' = .number ∨ q' = .text ∨ q' = .made) → (Vbbrac.step s q').1 = s := by
    intro q' hq
    cases hon : s.on with
    | false => rcases hq with rfl | rfl | rfl | rfl | rfl | rfl | rfl | rfl <;> (show (if s.on = false then (s, [-3]) else Vbbrac.act s _).1 = s; rw [if_pos hon])
    | true => rcases hq with rfl | rfl | rfl | rfl | rfl | rfl | rfl | rfl <;> (show (if s.on = false then (s, [-3]) else Vbbrac.act s _).1 = s; rw [if_neg (by rw [hon]; exact fun z => Bool.noConfusion z)]; rfl)
  refine Prod.ext (key q ?_) rfl
  unfold AskIs at h
  rcases h with ⟨_, h⟩ | ⟨_, h⟩ | ⟨_, h⟩ | ⟨_, h⟩ | ⟨_, h⟩ | ⟨_, h⟩ | ⟨_, h⟩ | ⟨_, h⟩ <;> simp [h]
theorem look_same {s : State} {d : Int} {t : List Int} : Vbbrac.step s (.look d t) = (s, (Vbbrac.step s (.look d t)).2) := by
  refine Prod.ext ?_ rfl
  unfold Vbbrac.step
  split <;> rfl
theorem nth_same {s : State} {d : Int} {t : List Int} : Vbbrac.step s (.nth d t) = (s, (Vbbrac.step s (.nth d t)).2) := by
  refine Prod.ext ?_ rfl
  unfold Vbbrac.step
  split
  · rfl
  · dsimp only
    split
    · rfl
    · split <;> rfl
theorem named_same {s : State} {a b : Int} : Vbbrac.step s (.named a b) = (s, (Vbbrac.step s (.named a b)).2) := by
  refine Prod.ext ?_ rfl
  unfold Vbbrac.step
  split
  · rfl
  · show (if s.on = false then (s, [-3]) else Vbbrac.act s (.named a b)).1 = s
    split <;> rfl
theorem pure_answer_of (Z : Zs c) (vs : List V) (H : Hp) (Q : VK) (E : XK) (h : sp_answer_of c vs H Q E) : t_answer_of c (sp_asked_answer c) (sp_board c) (sp_call_at_table c) (sp_deal c) (sp_decide c) (sp_look c) (sp_named c) (sp_nth c) (sp_read_auction c) (sp_undo c) { nx := fun _ H' => Q .non H', rt := Q } (start ["session", "call", "row", "place"] vs) H := by
  obtain ⟨as, F, s, p, b, xs, t, q, rfl, S, hp, hb, hl, hq, k⟩ := h
  have ix : ∀ {σ : L2.St} {H1 : Hp} {i : Int} {x : Int}, Ex H H1 → σ[1]? = some (some (.ref p)) → atI (xs.map V.int) i = some (.int x) → Ev (tOp (rIxL c.K) (tVar 1) (tC (.int i))) σ H1 (.int x) := fun {σ H1 i x} e1 h1 h2 =>
    ev_op (ev_var h1) ev_c (rv_ixL (ex_l e1 hp) h2)
  have ro : ∀ {H1 : Hp} {te : TE} {σ : L2.St}, Vbbrac.step s q = (s, (Vbbrac.step s q).2) → Ex H H1 → EvL te σ H1 ((Vbbrac.step s q).2.map V.int) → tRet te { nx := fun _ H' => Q .non H', rt := Q } σ H1 := fun {H1 te σ} hs e1 he =>
    s_retL he fun p2 H2 hp2 e2 h2 => (k.same hs S) p2 H2 (fresh_back e1 hp2) (e1.trans e2) h2
  obtain ⟨dxs, v, F', hS, eF, tf⟩ := id S
  have tab : ∀ {σ : L2.St} {H1 : Hp}, Ex H H1 → σ[0]? = some (some (.ref as)) → Ev (tFld c.K (tVar 0) "table") σ H1 v := fun {σ H1} e1 h1 => ev_fld (ev_var h1) (e1 _ _ hS) Z.zS.cl (Z.zS.no _ (by simp)) lk_table
  cases hq
  case deal a b2 =>
    refine q_asg (v := .int 0) (ix (Ex.refl H) rfl rfl) fun G0 g0 => ?_
    refine yes_at rfl rfl fun G1 g1 => ?_
    refine s_stp (ea_cons (ev_var rfl) (ea_cons (ix (g0.trans g1) rfl rfl) (ea_cons (ix (g0.trans g1) rfl rfl) ea_nil))) fun H1 e1 E1 => ⟨as, F, s, _, _, rfl, S.mono ((g0.trans g1).trans e1), k.grow ((g0.trans g1).trans e1)⟩
  case board a =>
    refine q_asg (v := .int 1) (ix (Ex.refl H) rfl rfl) fun G0 g0 => ?_
    refine no_at rfl (by decide) fun G1 g1 => ?_
    refine yes_at rfl rfl fun G2 g2 => ?_
    refine s_stp (ea_cons (ev_var rfl) (ea_cons (ix (g0.trans (g1.trans g2)) rfl rfl) ea_nil)) fun H1 e1 E1 => ⟨as, F, s, _, rfl, S.mono ((g0.trans (g1.trans g2)).trans e1), k.grow ((g0.trans (g1.trans g2)).trans e1)⟩
  case call a b2 =>
    refine q_asg (v := .int 2) (ix (Ex.refl H) rfl rfl) fun G0 g0 => ?_
    refine no_at rfl (by decide) fun G1 g1 => ?_
    refine no_at rfl (by decide) fun G2 g2 => ?_
    refine yes_at rfl rfl fun G3 g3 => ?_
    refine s_stp (ea_cons (ev_var rfl) (ea_cons (ix (g0.trans ((g1.trans g2).trans g3)) rfl rfl) (ea_cons (ix (g0.trans ((g1.trans g2).trans g3)) rfl rfl) ea_nil))) fun H1 e1 E1 => ⟨as, F, s, _, _, rfl, S.mono ((g0.trans ((g1.trans g2).trans g3)).trans e1), k.grow ((g0.trans ((g1.trans g2).trans g3)).trans e1)⟩
  case decide a =>
    refine q_asg (v := .int 3) (ix (Ex.refl H) rfl rfl) fun G0 g0 => ?_
    refine no_at rfl (by decide) fun G1 g1 => ?_
    refine no_at rfl (by decide) fun G2 g2 => ?_
    refine no_at rfl (by decide) fun G3 g3 => ?_
    refine yes_at rfl rfl fun G4 g4 => ?_
    refine s_stp (ea_cons (ev_var rfl) (ea_cons (ix (g0.trans (((g1.trans g2).trans g3).trans g4)) rfl rfl) ea_nil)) fun H1 e1 E1 => ⟨as, F, s, _, rfl, S.mono ((g0.trans (((g1.trans g2).trans g3).trans g4)).trans e1), k.grow ((g0.trans (((g1.trans g2).trans g3).trans g4)).trans e1)⟩
  case undo a =>
    refine q_asg (v := .int 4) (ix (Ex.refl H) rfl rfl) fun G0 g0 => ?_
    refine no_at rfl (by decide) fun G1 g1 => ?_
    refine no_at rfl (by decide) fun G2 g2 => ?_
    refine no_at rfl (by decide) fun G3 g3 => ?_
    refine no_at rfl (by decide) fun G4 g4 => ?_
    refine yes_at rfl rfl fun G5 g5 => ?_
    refine s_stp (ea_cons (ev_var rfl) (ea_cons (ix (g0.trans ((((g1.trans g2).trans g3).trans g4).trans g5)) rfl rfl) ea_nil)) fun H1 e1 E1 => ⟨as, F, s, _, rfl, S.mono ((g0.trans ((((g1.trans g2).trans g3).trans g4).trans g5)).trans e1), k.grow ((g0.trans ((((g1.trans g2).trans g3).trans g4).trans g5)).trans e1)⟩
  case nth a =>
    refine q_asg (v := .int 11) (ix (Ex.refl H) rfl rfl) fun G0 g0 => ?_
    refine no_at rfl (by decide) fun G1 g1 => ?_
    refine no_at rfl (by decide) fun G2 g2 => ?_
    refine no_at rfl (by decide) fun G3 g3 => ?_
    refine no_at rfl (by decide) fun G4 g4 => ?_
    refine no_at rfl (by decide) fun G5 g5 => ?_
    refine yes_at rfl rfl fun G6 g6 => ?_
    exact ro nth_same (g0.trans (((((g1.trans g2).trans g3).trans g4).trans g5).trans g6)) (el_call (ea_cons (ix (g0.trans (((((g1.trans g2).trans g3).trans g4).trans g5).trans g6)) rfl rfl) (ea_cons (ev_var rfl) ea_nil)) fun H1 e1 Q2 k2 E2 => ⟨s, a, b, t, rfl, ex_l ((g0.trans (((((g1.trans g2).trans g3).trans g4).trans g5).trans g6)).trans e1) hb, hl, fun p2 H2 hp2 e2 h2 => k2 p2 H2 hp2 e2 h2⟩)
  case look a =>
    refine q_asg (v := .int 13) (ix (Ex.refl H) rfl rfl) fun G0 g0 => ?_
    refine no_at rfl (by decide) fun G1 g1 => ?_
    refine no_at rfl (by decide) fun G2 g2 => ?_
    refine no_at rfl (by decide) fun G3 g3 => ?_
    refine no_at rfl (by decide) fun G4 g4 => ?_
    refine no_at rfl (by decide) fun G5 g5 => ?_
    refine no_at rfl (by decide) fun G6 g6 => ?_
    refine yes_at rfl rfl fun G7 g7 => ?_
    exact ro look_same (g0.trans ((((((g1.trans g2).trans g3).trans g4).trans g5).trans g6).trans g7)) (el_call (ea_cons (ix (g0.trans ((((((g1.trans g2).trans g3).trans g4).trans g5).trans g6).trans g7)) rfl rfl) (ea_cons (ev_var rfl) ea_nil)) fun H1 e1 Q2 k2 E2 => ⟨s, a, b, t, rfl, ex_l ((g0.trans ((((((g1.trans g2).trans g3).trans g4).trans g5).trans g6).trans g7)).trans e1) hb, hl, fun p2 H2 hp2 e2 h2 => k2 p2 H2 hp2 e2 h2⟩)
  case read a b2 =>
    refine q_asg (v := .int 14) (ix (Ex.refl H) rfl rfl) fun G0 g0 => ?_
    refine no_at rfl (by decide) fun G1 g1 => ?_
    refine no_at rfl (by decide) fun G2 g2 => ?_
    refine no_at rfl (by decide) fun G3 g3 => ?_
    refine no_at rfl (by decide) fun G4 g4 => ?_
    refine no_at rfl (by decide) fun G5 g5 => ?_
    refine no_at rfl (by decide) fun G6 g6 => ?_
    refine no_at rfl (by decide) fun G7 g7 => ?_
    refine yes_at rfl rfl fun G8 g8 => ?_
    refine s_stp (ea_cons (ev_var rfl) (ea_cons (ix (g0.trans (((((((g1.trans g2).trans g3).trans g4).trans g5).trans g6).trans g7).trans g8)) rfl rfl) (ea_cons (ix (g0.trans (((((((g1.trans g2).trans g3).trans g4).trans g5).trans g6).trans g7).trans g8)) rfl rfl) (ea_cons (ev_var rfl) ea_nil)))) fun H1 e1 E1 => ⟨as, F, s, _, _, b, t, rfl, S.mono ((g0.trans (((((((g1.trans g2).trans g3).trans g4).trans g5).trans g6).trans g7).trans g8)).trans e1), ex_l ((g0.trans (((((((g1.trans g2).trans g3).trans g4).trans g5).trans g6).trans g7).trans g8)).trans e1) hb, hl, k.grow ((g0.trans (((((((g1.trans g2).trans g3).trans g4).trans g5).trans g6).trans g7).trans g8)).trans e1)⟩
  case named a b2 =>
    refine q_asg (v := .int 16) (ix (Ex.refl H) rfl rfl) fun G0 g0 => ?_
    refine no_at rfl (by decide) fun G1 g1 => ?_
    refine no_at rfl (by decide) fun G2 g2 => ?_
    refine no_at rfl (by decide) fun G3 g3 => ?_
    refine no_at rfl (by decide) fun G4 g4 => ?_
    refine no_at rfl (by decide) fun G5 g5 => ?_
    refine no_at rfl (by decide) fun G6 g6 => ?_
    refine no_at rfl (by decide) fun G7 g7 => ?_
    refine no_at rfl (by decide) fun G8 g8 => ?_
    refine yes_at rfl rfl fun G9 g9 => ?_
    exact ro named_same (g0.trans ((((((((g1.trans g2).trans g3).trans g4).trans g5).trans g6).trans g7).trans g8).trans g9)) (el_call (ea_cons (tab (g0.trans ((((((((g1.trans g2).trans g3).trans g4).trans g5).trans g6).trans g7).trans g8).trans g9)) rfl) (ea_cons (ix (g0.trans ((((((((g1.trans g2).trans g3).trans g4).trans g5).trans g6).trans g7).trans g8).trans g9)) rfl rfl) (ea_cons (ix (g0.trans ((((((((g1.trans g2).trans g3).trans g4).trans g5).trans g6).trans g7).trans g8).trans g9)) rfl rfl) ea_nil))) fun H1 e1 Q2 k2 E2 => ⟨v, F', s, a, b2, rfl, tf.mono ((g0.trans ((((((((g1.trans g2).trans g3).trans g4).trans g5).trans g6).trans g7).trans g8).trans g9)).trans e1), fun p2 H2 hp2 e2 h2 => k2 p2 H2 hp2 e2 h2⟩)
  case ask x ha =>
    have hx : x ≠ 0 ∧ x ≠ 1 ∧ x ≠ 2 ∧ x ≠ 3 ∧ x ≠ 4 ∧ x ≠ 11 ∧ x ≠ 13 ∧ x ≠ 14 ∧ x ≠ 16 := by
      unfold AskIs at ha
      omega
    obtain ⟨n0, n1, n2, n3, n4, n11, n13, n14, n16⟩ := hx
    refine q_asg (v := .int x) (ix (Ex.refl H) rfl rfl) fun G0 g0 => ?_
    refine no_at rfl n0 fun G1 g1 => ?_
    refine no_at rfl n1 fun G2 g2 => ?_
    refine no_at rfl n2 fun G3 g3 => ?_
    refine no_at rfl n3 fun G4 g4 => ?_
    refine no_at rfl n4 fun G5 g5 => ?_
    refine no_at rfl n11 fun G6 g6 => ?_
    refine no_at rfl n13 fun G7 g7 => ?_
    refine no_at rfl n14 fun G8 g8 => ?_
    refine no_at rfl n16 fun G9 g9 => ?_
    exact ro (ask_same ha) (((((((((g0.trans g1).trans g2).trans g3).trans g4).trans g5).trans g6).trans g7).trans g8).trans g9) (el_call (ea_cons (tab (((((((((g0.trans g1).trans g2).trans g3).trans g4).trans g5).trans g6).trans g7).trans g8).trans g9) rfl) (ea_cons (ev_var rfl) ea_nil)) fun H1 e1 Q2 k2 E2 => ⟨v, F', s, x, q, rfl, tf.mono ((((((((((g0.trans g1).trans g2).trans g3).trans g4).trans g5).trans g6).trans g7).trans g8).trans g9).trans e1), ha, fun p2 H2 hp2 e2 h2 => k2 p2 H2 hp2 e2 h2⟩)
end G
namespace G
open PySem PySem.Spec PyProof.Rows L2 Evl
open Vbbrac (State)
local macro_rules | `(tactic| walk_at "ea") => `(tactic| first
  | with_reducible exact ea_nil
  | ((with_reducible refine' ea_cons ?eah ?eat); (case eah => walk_at "ev"); (case eat => walk_at "ea")))
local macro_rules | `(tactic| walk_at "rv") => `(tactic| first
  | with_reducible exact rv_I0
  | with_reducible exact rv_isN0
  | with_reducible exact rv_isNr
  | with_reducible exact rv_isNi
  | with_reducible exact rv_notN0
  | with_reducible exact rv_notNr
  | with_reducible exact rv_notNi
  | with_reducible exact rv_isN
  | with_reducible exact rv_notN
  | ((with_reducible refine' rv_eq ?rve); (case rve => rfl))
  | ((with_reducible refine' rv_ne ?rve); (case rve => rfl))
  | ((with_reducible refine' rv_I ?rve); (case rve => first | (exact (by decide)) | ((try dsimp only); first | decide | omega))))
local macro_rules | `(tactic| walk_at "ev") => `(tactic| first
  | with_reducible assumption
  | ((with_reducible refine' ev_var ?e0); (case e0 => exact rfl))
  | with_reducible exact ev_c
  | ((with_reducible refine' ev_op ?e1 ?e2 ?e3); (case e1 => walk_at "ev"); (case e2 => walk_at "ev"); (case e3 => walk_at "rv"))
  | ((with_reducible refine' ev_un ?e1 ru_neg); (case e1 => walk_at "ev"))
  | ((with_reducible refine' ev_call ?ca ?cb); (case ca => walk_at "ea"); (case cb => walk_at "gsp"))
  | ((with_reducible refine' ev_chain ?e1 ?e2 ?e3 ?e4 ?e5); (case e1 => walk_at "ev"); (case e2 => walk_at "ev"); (case e3 => walk_at "rv"); (case e4 => walk_at "ev"); (case e5 => walk_at "rv"))
  | ((with_reducible refine' ev_notV ?e1); (case e1 => walk_at "ev"))
  | fail "ev")
local macro_rules | `(tactic| walk_at "et") => `(tactic| first
  | with_reducible assumption
  | ((with_reducible refine' et_test ?e1); (case e1 => walk_at "ev"))
  | ((with_reducible refine' et_B ?e1); (case e1 => walk_at "ev"))
  | ((with_reducible refine' et_and ?e1 (fun hqq => ?e2)); (case e1 => walk_at "et"); (case e2 => walk_at "et"))
  | ((with_reducible refine' et_or ?e1 (fun hqq => ?e2)); (case e1 => walk_at "et"); (case e2 => walk_at "et"))
  | ((with_reducible refine' et_not ?e1); (case e1 => walk_at "et"))
  | fail "et")
local macro_rules | `(tactic| walk_at "nx") => `(tactic| ((try dsimp only); refine nx_of ?_))
local macro_rules | `(tactic| walk_at "xset") => `(tactic| (refine' x_set ?xe ?xk; (case xe => walk_at "ev")))
local macro_rules | `(tactic| walk_at "xasg") => `(tactic| (refine' x_asg ?xe ?xk; (case xe => walk_at "ev")))
local macro_rules | `(tactic| walk_at "xret") => `(tactic| (refine' x_ret ?xe ?xk; (case xe => walk_at "ev")))
local macro_rules | `(tactic| walk_at "xwhen") => `(tactic| (refine' x_when ?xe ?xk ?xl; (case xe => walk_at "et")))
local macro_rules | `(tactic| walk_at "xif") => `(tactic| (refine' x_if ?xe ?xk ?xl; (case xe => walk_at "et")))
local macro_rules | `(tactic| walk_at "xif2") => `(tactic| (refine' x_if2 ?xe ?xk ?xl; (case xe => walk_at "et")))
variable {c : Cn}
theorem bools_no {l : List Nat} {ns : List Int} (h : bools l = ns.map V.int) : False := by
  cases ns with
  | nil => cases h
  | cons x r => cases h
theorem KeptAt.updL {H : Hp} {F : List Addr} {v : V} {s : State} {l : Addr} {ns : List Int} {zs : List V} (h : KeptAt H F v s) (hl : H l = some (.lst (ns.map V.int))) : KeptAt (upd H l (.lst zs)) F v s := by
  obtain ⟨p, b, o, w, m, e, h1, h2, h3, n1, n2, hw, hm⟩ := h
  have kt := tup_upd (o := .lst zs) (lst_ne_tup hl)
  have nb : ∀ {b : Addr} {x : List Nat}, H b = some (.lst (bools x)) → b ≠ l := fun {b x} hb z => by
    rw [z, hl] at hb
    have q := Option.some.inj hb
    injection q with q
    exact bools_no q.symm
  exact ⟨p, b, o, w, m, e, kt _ _ h1, by rw [upd_ne (nb h2)]; exact h2, by rw [upd_ne (nb h3)]; exact h3, n1, n2, hw.keep kt, hm.keep kt⟩
theorem TabAt.updL {H : Hp} {a : Addr} {A : Ads} {s : State} {hs : List State} {l : Addr} {ns : List Int} {zs : List V} (T : TabAt c H a A s hs) (hl : H l = some (.lst (ns.map V.int))) (n : l ∉ a :: A.l) : TabAt c (upd H l (.lst zs)) a A s hs := by
  have kt := tup_upd (o := .lst zs) (lst_ne_tup hl)
  have n1 : a ≠ l := fun z => n (by rw [z]; simp)
  have n2 : A.am ≠ l := fun z => n (by rw [← z]; simp)
  have n3 : A.ab ≠ l := fun z => n (by rw [← z]; simp)
  have n4 : A.ao ≠ l := fun z => n (by rw [← z]; simp)
  have n5 : A.ap ≠ l := fun z => n (by rw [← z]; simp)
  obtain ⟨⟨w, m, h1, h2, h3⟩, ⟨vs', e, hm⟩, hb, ho, ⟨ps, p1, p2⟩, nd⟩ := T
  exact ⟨⟨w, m, by rw [upd_ne n1]; exact h1, h2.keep kt, h3.keep kt⟩, ⟨_, by rw [upd_ne n2]; exact e, hm.keep kt⟩, by rw [upd_ne n3]; exact hb, by rw [upd_ne n4]; exact ho, ⟨ps, by rw [upd_ne n5]; exact p1, p2.1, fun i t ht => let ⟨v, q1, q2⟩ := p2.2 i t ht; ⟨v, q1, q2.updL hl⟩⟩, nd⟩
theorem SessAt.updL {H : Hp} {as : Addr} {F : List Addr} {s : State} {l : Addr} {ns : List Int} {zs : List V} (S : SessAt c H as F s) (hl : H l = some (.lst (ns.map V.int))) (n : l ∉ F) : SessAt c (upd H l (.lst zs)) as F s := by
  obtain ⟨dxs, v, F', hS, rfl, tf⟩ := S
  have n1 : as ≠ l := fun z => n (by rw [z]; exact List.mem_cons_self)
  refine ⟨dxs, v, F', by rw [upd_ne n1]; exact hS, rfl, ?_⟩
  rcases tf with h | ⟨d, w, a, A, h1, h2, h3, h4, h5, T⟩
  · exact .inl h
  · subst h5
    exact .inr ⟨d, w, a, A, h1, h2, h3, h4, rfl, T.updL hl fun z => n (List.mem_cons_of_mem _ z)⟩
/-- the list that was handed in -/
def CallsAt (K : PySem.W.Frag) (H : Hp) (a : Addr) (xs : List V) (F : List Addr) (l : Addr) : Prop := (∀ H', SqL K H' a xs) ∨ (Rd H a (.lst xs) ∧ a ∉ F ∧ a ≠ l)
theorem CallsAt.sq {K : PySem.W.Frag} {H : Hp} {a : Addr} {xs : List V} {F : List Addr} {l : Addr} (h : CallsAt K H a xs F l) : SqL K H a xs := h.elim (fun z => z H) fun z => .inl z.1
theorem rd_some {H : Hp} {a : Addr} {u : HO} (h : Rd H a u) : H a ≠ none := fun z => by
  rcases h with h | ⟨o, h⟩
  · rw [z] at h; cases h
  · rw [z] at h; cases h
theorem rd_keep {H H' : Hp} {F : List Addr} {a : Addr} {u : HO} (h : Rd H a u) (k : Keep F H H') (n : a ∉ F) : Rd H' a u := by
  rcases h with h | ⟨o, h⟩
  · exact .inl (k _ _ h n)
  · exact .inr ⟨o, k _ _ h n⟩
theorem CallsAt.mono {K : PySem.W.Frag} {H H' : Hp} {a : Addr} {xs : List V} {F : List Addr} {l : Addr} (h : CallsAt K H a xs F l) (e : Ex H H') : CallsAt K H' a xs F l := h.imp id fun z => ⟨ex_rd e z.1, z.2⟩
theorem CallsAt.step {K : PySem.W.Frag} {H H' : Hp} {a : Addr} {xs : List V} {F F' : List Addr} {l : Addr} (h : CallsAt K H a xs F l) (k : Keep F H H') (n : ∀ x ∈ F', x ∈ F ∨ H x = none) : CallsAt K H' a xs F' l := h.imp id fun z => ⟨rd_keep z.1 k z.2.1, fun hx => (n a hx).elim z.2.1 fun q => rd_some z.1 q, z.2.2⟩
theorem CallsAt.updL {K : PySem.W.Frag} {H : Hp} {a : Addr} {xs : List V} {F : List Addr} {l : Addr} {o : HO} (h : CallsAt K H a xs F l) : CallsAt K (upd H l o) a xs F l := h.imp id fun z => ⟨by
  rcases z.1 with q | ⟨u, q⟩
  · exact .inl (by rw [upd_ne z.2.2]; exact q)
  · exact .inr ⟨u, by rw [upd_ne z.2.2]; exact q⟩, z.2⟩
theorem mk_session {σ : L2.St} {H : Hp} {Q : VK} (k : ∀ as H1, H as = none → SessAt c H1 as [as] Vbbrac.start → Ex H H1 → Q (.ref as) H1) : tMake c.CS (sp_Session_init c) [] E0 tNil σ H Q := fun x dx hx hdx ne =>
  ⟨x, dx, rfl, upd_same, fun H' hH' kp => ⟨rfl, k x H' hx ⟨dx, .non, [], hH', rfl, .inl ⟨rfl, rfl, rfl⟩⟩ fun b o hb => kp b o (by
    rw [upd_ne (ne_of_none hb hx), upd_ne (ne_of_none hb hdx)]
    exact hb) (by
    simp only [List.mem_singleton]
    exact ne_of_none hb hx)⟩⟩
theorem q_appV {K : PySem.W.Frag} {σ : L2.St} {H : Hp} {ta te : TE} {D : Ends} {tz : TS} {v : V} {l : Addr} {xs : List V} (hl : H l = some (.lst xs)) (ha : Ev ta σ H (.ref l)) (h : Ev te σ H v) (hz : xs.length < sizeLine) (k : ∀ H1, Ex H H1 → tz D σ (upd H1 l (.lst (xs ++ [v])))) :
    tSeq (tDrop (tBM K "list" rAppend ta (tCons te tNil))) tz D σ H := ha H (Ex.refl H) _ fun H1 e1 =>
  ⟨Or.inl ⟨rfl, xs, sq_of (e1 l _ hl)⟩, h H1 e1 _ fun H2 e2 => ⟨l, xs, v, rfl, rfl, e2 l _ (e1 l _ hl), hz, k H2 (e1.trans e2)⟩⟩
theorem s_extV {K : PySem.W.Frag} {σ : L2.St} {H : Hp} {ta te : TE} {D : Ends} {l p : Addr} {xs ys : List V} (hl : H l = some (.lst xs)) (hp : H p = some (.lst ys)) (ha : Ev ta σ H (.ref l)) (h : Ev te σ H (.ref p)) (hz : xs.length + ys.length ≤ sizeLine) (k : ∀ H1, Ex H H1 → D.nx σ (upd H1 l (.lst (xs ++ ys)))) :
    tDrop (tBM K "list" rExtend ta (tCons te tNil)) D σ H := ha H (Ex.refl H) _ fun H1 e1 =>
  ⟨Or.inl ⟨rfl, xs, sq_of (e1 l _ hl)⟩, h H1 e1 _ fun H2 e2 => ⟨l, p, xs, ys, rfl, rfl, e2 l _ (e1 l _ hl), e2 p _ (e1 p _ hp), hz, k H2 (e1.trans e2)⟩⟩
theorem asked_is {ns : List Int} (h : PyVbbrac.answers_asked ns = true) : ∃ raw, PyFlat.calls PyVbbrac.shape ns.length ns = some raw ∧ (∀ x ∈ raw, VbbracNeutral.asked1 x = true) ∧ PyVbbrac.answers ns = PyFlat.told (PyFlat.played VbbracNeutral.step VbbracNeutral.start raw) ∧ (PyVbbrac.answers ns).length ≤ 10000000 := by
  unfold PyVbbrac.answers_asked at h
  cases hc : PyFlat.calls PyVbbrac.shape ns.length ns with
  | none =>
    rw [hc] at h
    cases h
  | some raw =>
    rw [hc] at h
    dsimp only at h
    have hw : raw.map PyVbbrac.whole = raw := by
      have : PyVbbrac.whole = id := funext whole_id
      rw [this, List.map_id]
    rw [hw, Bool.and_eq_true, Bool.and_eq_true] at h
    obtain ⟨⟨_, h1⟩, h2⟩ := h
    refine ⟨raw, rfl, ?_, ?_, of_decide_eq_true h2⟩
    · unfold VbbracNeutral.asked at h1
      rw [Bool.and_eq_true] at h1
      exact List.all_eq_true.mp h1.1
    · unfold PyVbbrac.answers PyVbbrac.calls
      rw [hc]
      dsimp only
      rw [hw]
def sp_answers (c : Cn) : Sp := fun vs H Q _ => ∃ (a : Addr) (ns : List Int), vs = [.ref a] ∧ SqL c.K H a (ns.map V.int) ∧ PyVbbrac.answers_asked ns = true ∧
  ∀ (H' : Hp) (p : Addr), H' p = some (.lst ((PyVbbrac.answers ns).map V.int)) → Q (.ref p) H'
def LoopAt (c : Cn) (ns : List Int) (a : Addr) (m : Nat) (σ : L2.St) (H' : Hp) : Prop := ∃ (as l : Addr) (F : List Addr) (s : State) (place f : Nat) (cs : List (List (List Int))) (done : List Int) (y4 y5 y6 y7 y8 y9 : Option V),
  σ = [some (.ref a), some (.ref as), some (.ref l), some (.int (place : Nat)), y4, y5, y6, y7, y8, y9] ∧ m = ns.length - place ∧ place ≤ ns.length ∧ CallsAt c.K H' a (ns.map V.int) F l ∧ SessAt c H' as F s ∧ H' l = some (.lst (done.map V.int)) ∧ l ∉ F ∧
  PyFlat.calls PyVbbrac.shape f (ns.drop place) = some cs ∧ (∀ x ∈ cs, VbbracNeutral.asked1 x = true) ∧ PyVbbrac.answers ns = done ++ PyFlat.told (PyFlat.played VbbracNeutral.step s cs)
theorem ints_len (l : List Int) : (l.map V.int).length = l.length := List.length_map ..
/-- a call is answered, the answer is added -/
theorem loop_turn {ns : List Int} (hmax : (PyVbbrac.answers ns).length ≤ 10000000) {a as l p6 p7 : Addr} {F : List Addr} {s : State} {pl pl2 f : Nat} {cs2 : List (List (List Int))} {cl : List (List Int)} {xs tt done : List Int} {q : Vbbrac.Call} {y4 y5 y8 y9 : Option V} {H : Hp} {rt : VK} {bk ct : L2.St → Hp → Prop}
    (hpl : pl < pl2) (hle : pl2 ≤ ns.length) (C : CallsAt c.K H a (ns.map V.int) F l) (S : SessAt c H as F s) (hl : H l = some (.lst (done.map V.int))) (nl : l ∉ F) (h6 : H p6 = some (.lst (xs.map V.int))) (h7 : H p7 = some (.lst (tt.map V.int))) (ht : tt.length ≤ 1000)
    (hcs : PyFlat.calls PyVbbrac.shape f (ns.drop pl2) = some cs2) (has : ∀ x ∈ cs2, VbbracNeutral.asked1 x = true) (hq : VbbracNeutral.callOf cl = some q) (hci : CallIs tt xs q) (hans : PyVbbrac.answers ns = done ++ PyFlat.told (PyFlat.played VbbracNeutral.step s (cl :: cs2))) :
    tSeq (tAsg (tCall (sp_answer_of c) [] E0 (tCons (tVar 1) (tCons (tVar 6) (tCons (tVar 7) tNil)))) (gName 9)) (tSeq (tDrop (tBM c.K "list" rAppend (tVar 2) (tCons (tCB (rLenS c.K) (tCons (tVar 9) tNil)) tNil))) (tDrop (tBM c.K "list" rExtend (tVar 2) (tCons (tVar 9) tNil))))
      { nx := fun σ2 H2 => ∃ m', m' < ns.length - pl ∧ LoopAt c ns a m' σ2 H2, rt := rt, bk := bk, ct := ct } [some (.ref a), some (.ref as), some (.ref l), some (.int (pl2 : Nat)), y4, y5, some (.ref p6), some (.ref p7), y8, y9] H := by
  refine q_asgC (vs := [.ref as, .ref p6, .ref p7]) (ea_cons (ev_var rfl) (ea_cons (ev_var rfl) (ea_cons (ev_var rfl) ea_nil))) fun H1 e1 E1 => ⟨as, F, s, p6, p7, xs, tt, q, rfl, S.mono e1, SqL.of (e1 _ _ h6), SqL.of (e1 _ _ h7), ht, hci, fun p9 H2 F2 S2 h9 f9 k2 n2 => ?_⟩
  have hstep : VbbracNeutral.step s cl = Vbbrac.step s q := by
    unfold VbbracNeutral.step
    rw [hq]
  have hans2 : PyVbbrac.answers ns = done ++ (((Vbbrac.step s q).2.length : Int) :: (Vbbrac.step s q).2) ++ PyFlat.told (PyFlat.played VbbracNeutral.step (Vbbrac.step s q).1 cs2) := by
    rw [hans, List.append_assoc]
    congr 1
    show PyFlat.told ((VbbracNeutral.step s cl).2 :: PyFlat.played VbbracNeutral.step (VbbracNeutral.step s cl).1 cs2) = _
    rw [hstep]
    rfl
  generalize Vbbrac.step s q = r at S2 h9 hans2
  have hl1 := e1 _ _ hl
  have hl2 : H2 l = some (.lst (done.map V.int)) := k2 _ _ hl1 nl
  have nl2 : l ∉ F2 := fun hx => (n2 l hx).elim nl fun z => by rw [hl1] at z; cases z
  have n9 : p9 ≠ l := fun z => f9.elim (fun hx => nl (by rw [← z]; exact hx)) fun hn => by rw [z, hl1] at hn; cases hn
  have hlen := congrArg List.length hans2
  rw [List.length_append, List.length_append, List.length_cons] at hlen
  have hsz : (16777216 : Nat) ≤ sizeLine := by decide
  show tSeq _ _ _ [some (.ref a), some (.ref as), some (.ref l), some (.int (pl2 : Nat)), y4, y5, some (.ref p6), some (.ref p7), y8, some (.ref p9)] H2
  refine q_appV hl2 (ev_var rfl) (ev_len (ev_var rfl) (SqL.of h9)) (by rw [ints_len]; omega) fun H3 e3 => ?_
  have ea : done.map V.int ++ [V.int ((r.2.map V.int).length : Int)] = (done ++ [(r.2.length : Int)]).map V.int := by
    rw [List.map_append, ints_len]
    rfl
  rw [ea]
  have h9b : upd H3 l (.lst ((done ++ [(r.2.length : Int)]).map V.int)) p9 = some (.lst (r.2.map V.int)) := by rw [upd_ne n9]; exact e3 _ _ h9
  refine s_extV upd_same h9b (ev_var rfl) (ev_var rfl) (by rw [ints_len, ints_len, List.length_append]; show done.length + 1 + r.2.length ≤ sizeLine; omega) fun H4 e4 => ?_
  have eb : (done ++ [(r.2.length : Int)]).map V.int ++ r.2.map V.int = (done ++ ((r.2.length : Int) :: r.2)).map V.int := by
    rw [← List.map_append, List.append_assoc]
    rfl
  rw [eb]
  have S3 := ((S2.mono e3).updL (zs := (done ++ [(r.2.length : Int)]).map V.int) (e3 _ _ hl2) nl2).mono e4
  have S4 := S3.updL (zs := (done ++ ((r.2.length : Int) :: r.2)).map V.int) (e4 _ _ upd_same) nl2
  refine ⟨ns.length - pl2, by omega, as, l, F2, r.1, pl2, f, cs2, _, _, _, _, _, _, _, rfl, rfl, hle, ?_, S4, upd_same, nl2, hcs, has, hans2⟩
  exact ((((C.mono e1).step k2 n2).mono e3).updL.mono e4).updL
theorem pure_answers (Z : Zs c) {aS : Addr} (hSh : ShapesAt c.K aS shL) (vs : List V) (H : Hp) (Q : VK) (E : XK) (h : sp_answers c vs H Q E) : t_answers c (sp_answer_of c) (sp_Session_init c) aS { nx := fun _ H' => Q .non H', rt := Q } (start ["calls", "session", "answered", "place", "wholes", "row_count", "call", "row", "size", "answer"] vs) H := by
  obtain ⟨a, ns, rfl, hs, hask, k⟩ := h
  obtain ⟨raw, hraw, has, hans, hmax⟩ := asked_is hask
  obtain ⟨ass, hT, hTl, hTb⟩ := hSh
  refine asg_ap (mk_session fun as H1 hsn S1 e1 => ?_)
  refine q_asgL (xs := []) (el_lst ea_nil (by decide)) fun l H2 hl e2 h2 => ?_
  refine q_asg (v := .int (0 : Nat)) ev_c fun H3 e3 => ?_
  have hl0 := fresh_back e1 hl
  have e13 := (e1.trans e2).trans e3
  have S3 := S1.mono (e2.trans e3)
  have nas : l ≠ as := fun z => by
    obtain ⟨dxs, v, F', hS, _⟩ := S1
    rw [z, hS] at hl
    cases hl
  have C3 : CallsAt c.K H3 a (ns.map V.int) [as] l := by
    rcases hs with hs | hs
    · refine .inr ⟨ex_rd e13 hs, fun z => rd_some hs ?_, fun z => rd_some hs ?_⟩
      · rw [List.mem_singleton.mp z]
        exact hsn
      · rw [z]
        exact hl0
    · exact .inl fun H' => .inr hs
  show tSeq (tWhile _ _) _ _ [some (V.ref a), some (.ref as), some (.ref l), some (.int (0 : Nat)), none, none, none, none, none, none] H3
  refine q_while (LoopAt c ns a) ns.length ⟨as, l, [as], Vbbrac.start, 0, ns.length, raw, [], none, none, none, none, none, none, rfl, (Nat.sub_zero _).symm, Nat.zero_le _, C3, S3, e3 _ _ h2, fun z => nas (List.mem_singleton.mp z), hraw, has, hans⟩ ?_
  rintro m σ' H' ⟨as, l, F, s, pl, f, cs, done, y4, y5, y6, y7, y8, y9, rfl, rfl, hple, C, S, hl', nl, hcs, hasked, hA⟩
  refine ⟨decide (pl < ns.length), et_is (et_test (ev_op (ev_var rfl) (ev_len (ev_var rfl) C.sq) rv_I0)) (by rw [ints_len, Bool.eq_iff_iff]; simp), fun hb H4 e4 => ?_, fun hb H4 e4 => ?_⟩
  · have hlt := of_decide_eq_true hb
    refine ⟨fun σ2 H2 => ∃ m', m' < ns.length - pl ∧ LoopAt c ns a m' σ2 H2, fun _ _ h => h, ?_⟩
    rw [List.drop_eq_getElem_cons hlt] at hcs
    generalize hr : ns.drop (pl + 1) = r at hcs
    have hp : ns[pl]? = some ns[pl] := List.getElem?_eq_getElem hlt
    generalize ns[pl] = p at hp hcs
    have hdr : ns.drop pl = p :: r := by
      rw [List.drop_eq_getElem_cons hlt, hr]
      congr 1
      exact Option.some.inj ((List.getElem?_eq_getElem hlt).symm.trans hp)
    have hrl : r.length = ns.length - (pl + 1) := by rw [← hr, List.length_drop]
    obtain ⟨n, kk, f', t, cs', P, hn, hcs', hk⟩ := calls_cons hcs
    obtain ⟨⟨i, rfl, hi⟩, hk1, hP⟩ := P
    have C4 := C.mono e4
    have S4 := S.mono e4
    have hl4 := e4 _ _ hl'
    -- wholes, row_count = SHAPES[calls[place]]
    have hil : i < ass.length := by rw [hTl]; exact (List.getElem?_eq_some_iff.mp hi).1
    have hbS : ass[i]? = some ass[i] := List.getElem?_eq_getElem hil
    have hTi := hTb i _ _ hbS hi
    generalize ass[i] = bS at hbS hTi
    have hgp : atI (ns.map V.int) ((pl : Nat) : Int) = some (.int (i : Int)) := atI_nat (by rw [List.getElem?_map, hp]; rfl)
    have hgS : atI (ass.map V.ref) ((i : Nat) : Int) = some (.ref bS) := atI_nat (by rw [List.getElem?_map, hbS]; rfl)
    refine q_asgG (v := .ref bS) (ev_op ev_c (ev_op (ev_var rfl) (ev_var rfl) (rv_ixL C4.sq hgp)) (rv_ixT hT.sq hgS)) fun H5 e5 => ?_
    refine ⟨bS, _, rfl, hTi.sq, rfl, _, _, rfl, _, _, rfl, rfl, ?_⟩
    show tSeq _ _ _ [some (V.ref a), some (.ref as), some (.ref l), some (.int (pl : Nat)), some (.int (n : Nat)), some (.int (kk : Nat)), y6, y7, y8, y9] H5
    have C5 := C4.mono e5
    have hcut : cutV (ns.map V.int) (some ((pl : Nat) : Int)) (some ((pl + 1 + n : Nat) : Int)) = (((i : Int) :: r.take n).map V.int) := by
      rw [cut_two _ _ _ (by rw [ints_len]; omega) (by rw [ints_len]; omega), ← List.map_drop, hdr, ← List.map_take]
      have : pl + 1 + n - pl = n + 1 := by omega
      rw [this]
      rfl
    refine q_asgL (xs := ((i : Int) :: r.take n).map V.int) (by
      rw [← hcut]
      exact el_sl (ev_var rfl) (eo_some (ev_var rfl)) (eo_some (i := (pl + 1 + n : Nat)) (ev_is (ev_op (ev_op (ev_var rfl) ev_c rv_I0) (ev_var rfl) rv_I0) (by simp))) C5.sq) fun p6 H6 _ e6 h6 => ?_
    refine q_asg (v := .int (pl + 1 + n : Nat)) (ev_is (ev_op (ev_op (ev_var rfl) ev_c rv_I0) (ev_var rfl) rv_I0) (by simp)) fun H7 e7 => ?_
    refine q_asgL (xs := []) (el_lst ea_nil (by decide)) fun p7 H8 _ e8 h8 => ?_
    have e58 := ((e5.trans e6).trans e7).trans e8
    show tSeq _ _ _ [some (V.ref a), some (.ref as), some (.ref l), some (.int (pl + 1 + n : Nat)), some (.int (n : Nat)), some (.int (kk : Nat)), some (.ref p6), some (.ref p7), y8, y9] H8
    have hdn : ns.drop (pl + 1 + n) = r.drop n := by rw [← List.drop_drop, hr]
    rcases hk with ⟨rfl, rfl, rfl⟩ | ⟨rfl, mm, r', hr', hmm, rfl, rfl⟩
    · refine q_if (b := false) (et_is (et_test (ev_op (ev_var rfl) ev_c (rv_eq rfl))) (by simp)) (fun hb H9 e9 => by cases hb) (fun _ H9 e9 => ?_)
      obtain ⟨q, q1, q2, q3⟩ := hP (r.take n) [] (by rw [List.length_take]; omega) rfl (hasked _ List.mem_cons_self)
      have e59 := e58.trans e9
      exact loop_turn hmax (by omega) (by omega) (C4.mono e59) (S4.mono e59) (e59 _ _ hl4) nl (e9 _ _ (e8 _ _ (e7 _ _ h6))) (tt := []) (e9 _ _ h8) (by simp) (by rw [hdn]; exact hcs') (fun x hx => hasked x (List.mem_cons_of_mem _ hx)) q1 q2 hA
    · refine q_if (b := true) (et_is (et_test (ev_op (ev_var rfl) ev_c (rv_eq rfl))) (by simp)) (fun _ H9 e9 => ?_) (fun hb H9 e9 => by cases hb)
      obtain ⟨q, q1, q2, q3⟩ := hP (r.take n) [r'.take mm] (by rw [List.length_take]; omega) rfl (hasked _ List.mem_cons_self)
      have e59 := e58.trans e9
      have hrl2 : r'.length + 1 = r.length - n := by
        have := congrArg List.length hr'
        rw [List.length_drop, List.length_cons] at this
        omega
      have hg2 : ns[pl + 1 + n]? = some (mm : Int) := by
        have h0 : (ns.drop (pl + 1 + n))[0]? = some (mm : Int) := by
          rw [hdn, hr']
          rfl
        rw [List.getElem?_drop] at h0
        exact h0
      have hg3 : atI (ns.map V.int) ((pl + 1 + n : Nat) : Int) = some (.int (mm : Int)) := atI_nat (by rw [List.getElem?_map, hg2]; rfl)
      have hd2 : ns.drop (pl + 1 + n + 1) = r' := by
        rw [← List.drop_drop, hdn, hr']
        rfl
      have hcut2 : cutV (ns.map V.int) (some ((pl + 1 + n + 1 : Nat) : Int)) (some ((pl + 1 + n + 1 + mm : Nat) : Int)) = (r'.take mm).map V.int := by
        rw [cut_two _ _ _ (by rw [ints_len]; omega) (by rw [ints_len]; omega), ← List.map_drop, hd2, ← List.map_take]
        congr 2
        omega
      have C9 := C4.mono e59
      refine q_asg (v := .int (mm : Nat)) (ev_op (ev_var rfl) (ev_var rfl) (rv_ixL C9.sq hg3)) fun G1 g1 => ?_
      refine q_asgL (xs := (r'.take mm).map V.int) (by
        rw [← hcut2]
        exact el_sl (ev_var rfl) (eo_some (i := (pl + 1 + n + 1 : Nat)) (ev_is (ev_op (ev_var rfl) ev_c rv_I0) (by simp))) (eo_some (i := (pl + 1 + n + 1 + mm : Nat)) (ev_is (ev_op (ev_op (ev_var rfl) ev_c rv_I0) (ev_var rfl) rv_I0) (by simp))) (C9.mono g1).sq) fun p8 G2 _ g2 k8 => ?_
      refine s_asg (v := .int (pl + 1 + n + 1 + mm : Nat)) (ev_is (ev_op (ev_op (ev_var rfl) ev_c rv_I0) (ev_var rfl) rv_I0) (by simp)) fun G3 g3 => ?_
      have g13 := (g1.trans g2).trans g3
      have hd3 : ns.drop (pl + 1 + n + 1 + mm) = r'.drop mm := by rw [← List.drop_drop, hd2]
      exact loop_turn hmax (by omega) (by omega) (C9.mono g13) (S4.mono (e59.trans g13)) (g13 _ _ (e59 _ _ hl4)) nl (g13 _ _ (e9 _ _ (e8 _ _ (e7 _ _ h6)))) (g3 _ _ k8) q3 (by rw [hd3]; exact hcs') (fun x hx => hasked x (List.mem_cons_of_mem _ hx)) q1 q2 hA
  · have hge := of_decide_eq_false hb
    rw [List.drop_eq_nil_of_le (by omega)] at hcs
    have ecs : cs = [] := by
      cases f with
      | zero => exact (Option.some.inj hcs).symm
      | succ f => exact (Option.some.inj hcs).symm
    subst ecs
    have hA2 : PyVbbrac.answers ns = done := hA.trans (List.append_nil _)
    refine s_ret (ev_var rfl) fun H5 e5 => k H5 l ?_
    rw [hA2]
    exact e5 _ _ (e4 _ _ hl')
end G
namespace G
open PySem PySem.Spec PyProof.Rows L2 Evl
/-- the def's promise, if nothing is asked -/
theorem DefAt.vac {P : Program} {w : World} {K : PySem.W.Frag} {mg : Str → Option Value} {base : Heap} {x : Str} {st : Stmt} {ps : List Str} {k : Nat} {sp : Sp} (F : DefAt K mg x st)
    (hb : ∀ (kV doc pm : Value) (an : Option Addr) (cdv ct : Value) (us : List Value), us.length = ps.length → bindArgs (PySem.W.fnOf x x (defArgs st) (defBody st) (defScope st) .none kV doc pm an cdv ct) ⟨us, []⟩ = pure (ps.zip us))
    (no : ∀ vs H Q E, ¬ sp vs H Q E) : FnAt P w K mg base k x ps sp := by
  obtain ⟨f, fd, hm, F⟩ := F.ex
  exact ⟨f, fd, ⟨fun vs H Q E h => (no vs H Q E h).elim, fun A outer s H args us vs Q E hr e0 hb r hsp => (no vs H Q E hsp).elim⟩, hm, F.kp, F.binds hb, let ⟨oc, od, _, _, _, _, _, _, osl, _, lk, _⟩ := F.ex; ⟨oc, od, osl, lk⟩⟩
theorem assemble {P : Program} {w : World} {c : Cn} {mg : Str → Option Value} {base : Heap} {aS : Addr} (Z : Zs c) (T : Tx c mg) (hSh : ShapesAt c.K aS shL) (hS : mg "SHAPES" = some (.ref aS))
    (D_side_of : DefAt c.K mg "side_of" s_side_of)
    (D_partner_of : DefAt c.K mg "partner_of" s_partner_of)
    (D_last_bid : DefAt c.K mg "last_bid" s_last_bid)
    (D_side_of_last_bid : DefAt c.K mg "side_of_last_bid" s_side_of_last_bid)
    (D_last_word : DefAt c.K mg "last_word" s_last_word)
    (D_passes_at_end : DefAt c.K mg "passes_at_end" s_passes_at_end)
    (D_passes_to_end : DefAt c.K mg "passes_to_end" s_passes_to_end)
    (D_is_over : DefAt c.K mg "is_over" s_is_over)
    (D_seat_on_turn : DefAt c.K mg "seat_on_turn" s_seat_on_turn)
    (D_doubled : DefAt c.K mg "doubled" s_doubled)
    (D_may_stand : DefAt c.K mg "may_stand" s_may_stand)
    (D_is_legal : DefAt c.K mg "is_legal" s_is_legal)
    (D_first_to_name : DefAt c.K mg "first_to_name" s_first_to_name)
    (I_Table : InitAt c.K mg "Table" c.CT s_Table_init "Table.__init__")
    (D_turn_of : DefAt c.K mg "turn_of" s_turn_of)
    (D_must_pass : DefAt c.K mg "must_pass" s_must_pass)
    (D_remember : DefAt c.K mg "remember" s_remember)
    (D_go_back : DefAt c.K mg "go_back" s_go_back)
    (D_let_stand : DefAt c.K mg "let_stand" s_let_stand)
    (D_bar_partner : DefAt c.K mg "bar_partner" s_bar_partner)
    (D_is_needed_to_mend : DefAt c.K mg "is_needed_to_mend" s_is_needed_to_mend)
    (D_make_call : DefAt c.K mg "make_call" s_make_call)
    (D_mended_bid : DefAt c.K mg "mended_bid" s_mended_bid)
    (D_decide_waiting : DefAt c.K mg "decide_waiting" s_decide_waiting)
    (D_text_of_call : DefAt c.K mg "text_of_call" s_text_of_call)
    (D_bytes_of : DefAt c.K mg "bytes_of" s_bytes_of)
    (D_bytes_of_auction : DefAt c.K mg "bytes_of_auction" s_bytes_of_auction)
    (D_words_of : DefAt c.K mg "words_of" s_words_of)
    (D_call_of_word : DefAt c.K mg "call_of_word" s_call_of_word)
    (D_value_of_numeral : DefAt c.K mg "value_of_numeral" s_value_of_numeral)
    (I_Session : InitAt c.K mg "Session" c.CS s_Session_init "Session.__init__")
    (D_are_bytes : DefAt c.K mg "are_bytes" s_are_bytes)
    (D_deal : DefAt c.K mg "deal" s_deal)
    (D_board : DefAt c.K mg "board" s_board)
    (D_call_at_table : DefAt c.K mg "call_at_table" s_call_at_table)
    (D_decide : DefAt c.K mg "decide" s_decide)
    (D_undo : DefAt c.K mg "undo" s_undo)
    (D_looked_at : DefAt c.K mg "looked_at" s_looked_at)
    (D_look : DefAt c.K mg "look" s_look)
    (D_read_auction : DefAt c.K mg "read_auction" s_read_auction)
    (I_Position : InitAt c.K mg "Position" c.CP s_Position_init "Position.__init__")
    (D_first_position : DefAt c.K mg "first_position" s_first_position)
    (D_position_of : DefAt c.K mg "position_of" s_position_of)
    (D_is_at_end : DefAt c.K mg "is_at_end" s_is_at_end)
    (D_legal_calls : DefAt c.K mg "legal_calls" s_legal_calls)
    (D_position_behind : DefAt c.K mg "position_behind" s_position_behind)
    (D_ways_with_bid : DefAt c.K mg "ways_with_bid" s_ways_with_bid)
    (D_ways_from_bids : DefAt c.K mg "ways_from_bids" s_ways_from_bids)
    (D_ways_of : DefAt c.K mg "ways_of" s_ways_of)
    (D_longest_with_bid : DefAt c.K mg "longest_with_bid" s_longest_with_bid)
    (D_longest_from_bid : DefAt c.K mg "longest_from_bid" s_longest_from_bid)
    (D_longest_of : DefAt c.K mg "longest_of" s_longest_of)
    (D_number_of : DefAt c.K mg "number_of" s_number_of)
    (D_auction_with_number : DefAt c.K mg "auction_with_number" s_auction_with_number)
    (D_call_with : DefAt c.K mg "call_with" s_call_with)
    (D_show_table : DefAt c.K mg "show_table" s_show_table)
    (D_bound_number : DefAt c.K mg "bound_number" s_bound_number)
    (D_legals : DefAt c.K mg "legals" s_legals)
    (D_contract : DefAt c.K mg "contract" s_contract)
    (D_ways : DefAt c.K mg "ways" s_ways)
    (D_longest : DefAt c.K mg "longest" s_longest)
    (D_number : DefAt c.K mg "number" s_number)
    (D_nth : DefAt c.K mg "nth" s_nth)
    (D_auction_text : DefAt c.K mg "auction_text" s_auction_text)
    (D_calls_made : DefAt c.K mg "calls_made" s_calls_made)
    (D_named : DefAt c.K mg "named" s_named)
    (D_answers : DefAt c.K mg "answers" s_answers)
    (D_answer_of : DefAt c.K mg "answer_of" s_answer_of)
    (D_asked_answer : DefAt c.K mg "asked_answer" s_asked_answer) :
    FnAt P w c.K mg base 30 "answers" ["calls"] (sp_answers c) := by
  have F_side_of := d_side_of (P := P) (w := w) (base := base) (k := 0) (sp := sp_side_of) T D_side_of  (fun vs H Q E h => by
    obtain ⟨z, ⟨s, rfl, rfl⟩, k⟩ := h
    rfl) (fun vs H Q E h => pure_side_of vs H Q E h)
  have F_partner_of := d_partner_of (P := P) (w := w) (base := base) (k := 0) (sp := sp_partner_of) T D_partner_of  (fun vs H Q E h => by
    obtain ⟨z, ⟨s, rfl, rfl⟩, k⟩ := h
    rfl) (fun vs H Q E h => pure_partner_of vs H Q E h)
  have F_last_bid := d_last_bid (P := P) (w := w) (base := base) (k := 0) (sp := sp_last_bid) T D_last_bid  (fun vs H Q E h => by
    obtain ⟨z, ⟨a, m, rfl, hM, rfl⟩, k⟩ := h
    rfl) (fun vs H Q E h => pure_last_bid vs H Q E h)
  have F_side_of_last_bid := d_side_of_last_bid (P := P) (w := w) (base := base) (k := 1) (sp := sp_side_of_last_bid) T D_side_of_last_bid (F_side_of.mono (by omega)) (fun vs H Q E h => by
    obtain ⟨z, ⟨a, m, rfl, hM, rfl⟩, k⟩ := h
    rfl) (fun vs H Q E h => pure_side_of_last_bid vs H Q E h)
  have F_last_word := d_last_word (P := P) (w := w) (base := base) (k := 0) (sp := sp_last_word) T D_last_word  (fun vs H Q E h => by
    obtain ⟨a, m, rfl, hM, k⟩ := h
    rfl) (fun vs H Q E h => pure_last_word vs H Q E h)
  have F_passes_at_end := d_passes_at_end (P := P) (w := w) (base := base) (k := 0) (sp := sp_passes_at_end) T D_passes_at_end  (fun vs H Q E h => by
    obtain ⟨z, ⟨a, m, rfl, hM, rfl⟩, k⟩ := h
    rfl) (fun vs H Q E h => pure_passes_at_end vs H Q E h)
  have F_passes_to_end := d_passes_to_end (P := P) (w := w) (base := base) (k := 0) (sp := sp_passes_to_end) T D_passes_to_end  (fun vs H Q E h => by
    obtain ⟨z, ⟨b, rfl, rfl⟩, k⟩ := h
    rfl) (fun vs H Q E h => pure_passes_to_end vs H Q E h)
  have F_is_over := d_is_over (P := P) (w := w) (base := base) (k := 1) (sp := sp_is_over) T D_is_over (F_last_bid.mono (by omega)) (F_passes_at_end.mono (by omega)) (F_passes_to_end.mono (by omega)) (fun vs H Q E h => by
    obtain ⟨z, ⟨a, m, rfl, hM, rfl⟩, k⟩ := h
    rfl) (fun vs H Q E h => pure_is_over vs H Q E h)
  have F_seat_on_turn := d_seat_on_turn (P := P) (w := w) (base := base) (k := 0) (sp := sp_seat_on_turn) T D_seat_on_turn  (fun vs H Q E h => by
    obtain ⟨z, ⟨d, a, m, rfl, hM, rfl⟩, k⟩ := h
    rfl) (fun vs H Q E h => pure_seat_on_turn vs H Q E h)
  have F_doubled := d_doubled (P := P) (w := w) (base := base) (k := 1) (sp := sp_doubled) T D_doubled (F_last_word.mono (by omega)) (fun vs H Q E h => by
    obtain ⟨z, ⟨a, m, rfl, hM, rfl⟩, k⟩ := h
    rfl) (fun vs H Q E h => pure_doubled vs H Q E h)
  have F_may_stand := d_may_stand (P := P) (w := w) (base := base) (k := 1) (sp := sp_may_stand) T D_may_stand (F_last_word.mono (by omega)) (F_side_of.mono (by omega)) (fun vs H Q E h => by
    obtain ⟨z, ⟨a, m, s, cc, rfl, hM, rfl⟩, k⟩ := h
    rfl) (fun vs H Q E h => pure_may_stand vs H Q E h)
  have F_is_legal := d_is_legal (P := P) (w := w) (base := base) (k := 2) (sp := sp_is_legal) T D_is_legal (F_is_over.mono (by omega)) (F_last_bid.mono (by omega)) (F_may_stand.mono (by omega)) (fun vs H Q E h => by
    obtain ⟨z, ⟨a, m, s, cc, rfl, hM, hc, rfl⟩, k⟩ := h
    rfl) (fun vs H Q E h => pure_is_legal vs H Q E h)
  have F_first_to_name := d_first_to_name (P := P) (w := w) (base := base) (k := 1) (sp := sp_first_to_name) T D_first_to_name (F_side_of.mono (by omega)) (fun vs H Q E h => by
    obtain ⟨z, ⟨a, m, s, cc, rfl, hM, rfl⟩, k⟩ := h
    rfl) (fun vs H Q E h => pure_first_to_name vs H Q E h)
  have F_Table_init := d_Table_init (P := P) (w := w) (base := base) (k := 0) (sp := (sp_Table_init c)) T I_Table  (fun vs H Q E h => by
    obtain ⟨p, dx, d, v, rfl, hp, k⟩ := h
    rfl) (fun vs H Q E h => pure_Table_init Z vs H Q E h)
  have F_turn_of := d_turn_of (P := P) (w := w) (base := base) (k := 1) (sp := (sp_turn_of c)) T D_turn_of (F_seat_on_turn.mono (by omega)) (fun vs H Q E h => by
    obtain ⟨z, ⟨a, A, s, hs, rfl, T, rfl⟩, k⟩ := h
    rfl) (fun vs H Q E h => pure_turn_of Z vs H Q E h)
  have F_must_pass := d_must_pass (P := P) (w := w) (base := base) (k := 0) (sp := (sp_must_pass c)) T D_must_pass  (fun vs H Q E h => by
    obtain ⟨z, ⟨a, A, s, hs, p, rfl, T, hp, rfl⟩, k⟩ := h
    rfl) (fun vs H Q E h => pure_must_pass Z vs H Q E h)
  have F_remember := d_remember (P := P) (w := w) (base := base) (k := 0) (sp := (sp_remember c)) T D_remember  (fun vs H Q E h => by
    obtain ⟨a, A, s, hs, s', hs', z, T, ⟨rfl, hl, rfl, rfl, rfl⟩, k⟩ := h
    rfl) (fun vs H Q E h => pure_remember Z vs H Q E h)
  have F_go_back := d_go_back (P := P) (w := w) (base := base) (k := 0) (sp := (sp_go_back c)) T D_go_back  (fun vs H Q E h => by
    obtain ⟨a, A, s, hs, s', hs', z, T, ⟨n, rfl, hn, hl, hml, rfl, hk⟩, k⟩ := h
    rfl) (fun vs H Q E h => pure_go_back Z vs H Q E h)
  have F_let_stand := d_let_stand (P := P) (w := w) (base := base) (k := 0) (sp := (sp_let_stand c)) T D_let_stand  (fun vs H Q E h => by
    obtain ⟨a, A, s, hs, s', hs', z, T, ⟨p, cc, rfl, hp, hl, rfl, rfl, rfl⟩, k⟩ := h
    rfl) (fun vs H Q E h => pure_let_stand Z vs H Q E h)
  have F_bar_partner := d_bar_partner (P := P) (w := w) (base := base) (k := 1) (sp := (sp_bar_partner c)) T D_bar_partner (F_partner_of.mono (by omega)) (fun vs H Q E h => by
    obtain ⟨a, A, s, hs, s', hs', z, T, ⟨p, rfl, hp, rfl, rfl, rfl⟩, k⟩ := h
    rfl) (fun vs H Q E h => pure_bar_partner Z vs H Q E h)
  have F_is_needed_to_mend := d_is_needed_to_mend (P := P) (w := w) (base := base) (k := 3) (sp := (sp_is_needed c)) T D_is_needed_to_mend (F_is_legal.mono (by omega)) (F_turn_of.mono (by omega)) (fun vs H Q E h => by
    obtain ⟨z, ⟨a, A, s, hs, p, cc, rfl, T, hc, rfl⟩, k⟩ := h
    rfl) (fun vs H Q E h => pure_is_needed_to_mend Z vs H Q E h)
  have F_mended_bid := d_mended_bid (P := P) (w := w) (base := base) (k := 1) (sp := (sp_mended_bid c)) T D_mended_bid (F_last_bid.mono (by omega)) (fun vs H Q E h => by
    obtain ⟨z, ⟨a, A, s, hs, x, rfl, T, hx, rfl⟩, k⟩ := h
    rfl) (fun vs H Q E h => pure_mended_bid Z vs H Q E h)
  have F_make_call := d_make_call (P := P) (w := w) (base := base) (k := 3) (sp := (sp_make_call c)) T D_make_call (F_bar_partner.mono (by omega)) (F_is_legal.mono (by omega)) (F_let_stand.mono (by omega)) (F_may_stand.mono (by omega)) (F_mended_bid.mono (by omega)) (F_turn_of.mono (by omega)) (fun vs H Q E h => by
    obtain ⟨a, A, s, hs, s', hs', z, T, ⟨p, cc, rfl, hp, hc, hl, rfl, rfl, rfl⟩, k⟩ := h
    rfl) (fun vs H Q E h => pure_make_call Z vs H Q E h)
  have F_decide_waiting := d_decide_waiting (P := P) (w := w) (base := base) (k := 2) (sp := (sp_decide_waiting c)) T D_decide_waiting (F_bar_partner.mono (by omega)) (F_let_stand.mono (by omega)) (fun vs H Q E h => by
    obtain ⟨a, A, s, hs, s', hs', z, T, ⟨y, kd, p, cc, rfl, hw0, hp, hk1, hl, rfl, eh, rfl⟩, k⟩ := h
    rfl) (fun vs H Q E h => pure_decide_waiting Z vs H Q E h)
  have F_text_of_call := d_text_of_call (P := P) (w := w) (base := base) (k := 0) (sp := sp_text_of_call) T D_text_of_call  (fun vs H Q E h => by
    obtain ⟨z, ⟨n, rfl, hn, rfl⟩, k⟩ := h
    rfl) (fun vs H Q E h => pure_text_of_call vs H Q E h)
  have F_bytes_of := d_bytes_of (P := P) (w := w) (base := base) (k := 0) (sp := sp_bytes_of) T D_bytes_of  (fun vs H Q E h => by
    obtain ⟨x, rfl, hx, k⟩ := h
    rfl) (fun vs H Q E h => pure_bytes_of vs H Q E h)
  have F_bytes_of_auction := d_bytes_of_auction (P := P) (w := w) (base := base) (k := 1) (sp := (sp_bytes_of_auction c)) T D_bytes_of_auction (F_bytes_of.mono (by omega)) (F_text_of_call.mono (by omega)) (fun vs H Q E h => by
    obtain ⟨a, l, rfl, hs, hl, hc, k⟩ := h
    rfl) (fun vs H Q E h => pure_bytes_of_auction vs H Q E h)
  have F_words_of := d_words_of (P := P) (w := w) (base := base) (k := 0) (sp := (sp_words_of c)) T D_words_of  (fun vs H Q E h => by
    obtain ⟨a, t, rfl, hs, hl, k⟩ := h
    rfl) (fun vs H Q E h => pure_words_of vs H Q E h)
  have F_call_of_word := d_call_of_word (P := P) (w := w) (base := base) (k := 1) (sp := (sp_call_of_word c)) T D_call_of_word (F_bytes_of.mono (by omega)) (F_text_of_call.mono (by omega)) (fun vs H Q E h => by
    obtain ⟨z, ⟨a, w, rfl, hs, rfl⟩, k⟩ := h
    rfl) (fun vs H Q E h => pure_call_of_word vs H Q E h)
  have F_value_of_numeral := d_value_of_numeral (P := P) (w := w) (base := base) (k := 0) (sp := (sp_value_of_numeral c)) T D_value_of_numeral  (fun vs H Q E h => by
    obtain ⟨z, ⟨a, t, rfl, hs, rfl⟩, k⟩ := h
    rfl) (fun vs H Q E h => pure_value_of_numeral vs H Q E h)
  have F_Session_init := d_Session_init (P := P) (w := w) (base := base) (k := 0) (sp := (sp_Session_init c)) T I_Session  (fun vs H Q E h => by
    obtain ⟨p, dx, rfl, hp, k⟩ := h
    rfl) (fun vs H Q E h => pure_Session_init Z vs H Q E h)
  have F_are_bytes := d_are_bytes (P := P) (w := w) (base := base) (k := 0) (sp := (sp_are_bytes c)) T D_are_bytes  (fun vs H Q E h => by
    obtain ⟨z, ⟨a, t, rfl, hs, hl, rfl⟩, k⟩ := h
    rfl) (fun vs H Q E h => pure_are_bytes vs H Q E h)
  have F_deal := d_deal (P := P) (w := w) (base := base) (k := 1) (sp := (sp_deal c)) T D_deal (F_Table_init.mono (by omega)) (fun vs H Q E h => by
    obtain ⟨as, F, s, x, y, rfl, S, k⟩ := h
    rfl) (fun vs H Q E h => pure_deal Z vs H Q E h)
  have F_board := d_board (P := P) (w := w) (base := base) (k := 1) (sp := (sp_board c)) T D_board (F_Table_init.mono (by omega)) (fun vs H Q E h => by
    obtain ⟨as, F, s, x, rfl, S, k⟩ := h
    rfl) (fun vs H Q E h => pure_board Z vs H Q E h)
  have F_call_at_table := d_call_at_table (P := P) (w := w) (base := base) (k := 4) (sp := (sp_call_at_table c)) T D_call_at_table (F_is_needed_to_mend.mono (by omega)) (F_is_over.mono (by omega)) (F_make_call.mono (by omega)) (F_must_pass.mono (by omega)) (F_remember.mono (by omega)) (fun vs H Q E h => by
    obtain ⟨as, F, s, x, y, rfl, S, k⟩ := h
    rfl) (fun vs H Q E h => pure_call_at_table Z vs H Q E h)
  have F_decide := d_decide (P := P) (w := w) (base := base) (k := 3) (sp := (sp_decide c)) T D_decide (F_decide_waiting.mono (by omega)) (F_remember.mono (by omega)) (fun vs H Q E h => by
    obtain ⟨as, F, s, x, rfl, S, k⟩ := h
    rfl) (fun vs H Q E h => pure_decide Z vs H Q E h)
  have F_undo := d_undo (P := P) (w := w) (base := base) (k := 1) (sp := (sp_undo c)) T D_undo (F_go_back.mono (by omega)) (fun vs H Q E h => by
    obtain ⟨as, F, s, x, rfl, S, k⟩ := h
    rfl) (fun vs H Q E h => pure_undo Z vs H Q E h)
  have F_looked_at := d_looked_at (P := P) (w := w) (base := base) (k := 3) (sp := (sp_looked_at c)) T D_looked_at (F_call_of_word.mono (by omega)) (F_is_legal.mono (by omega)) (F_is_over.mono (by omega)) (F_seat_on_turn.mono (by omega)) (F_words_of.mono (by omega)) (fun vs H Q E h => by
    obtain ⟨d, b, t, rfl, hd, hs, hl, k⟩ := h
    rfl) (fun vs H Q E h => pure_looked_at vs H Q E h)
  have F_look := d_look (P := P) (w := w) (base := base) (k := 4) (sp := (sp_look c)) T D_look (F_are_bytes.mono (by omega)) (F_looked_at.mono (by omega)) (fun vs H Q E h => by
    obtain ⟨s, d, b, t, rfl, hs, hl, k⟩ := h
    rfl) (fun vs H Q E h => pure_look vs H Q E h)
  have F_read_auction := d_read_auction (P := P) (w := w) (base := base) (k := 3) (sp := (sp_read_auction c)) T D_read_auction (F_are_bytes.mono (by omega)) (F_let_stand.mono (by omega)) (F_looked_at.mono (by omega)) (F_remember.mono (by omega)) (F_Table_init.mono (by omega)) (fun vs H Q E h => by
    obtain ⟨as, F, s, d, v, b, t, rfl, S, hs, hl, k⟩ := h
    rfl) (fun vs H Q E h => pure_read_auction Z vs H Q E h)
  have F_Position_init := d_Position_init (P := P) (w := w) (base := base) (k := 0) (sp := (sp_Position_init c)) T I_Position  (fun vs H Q E h => by
    obtain ⟨p, dx, q, rfl, hp, k⟩ := h
    rfl) (fun vs H Q E h => pure_Position_init Z vs H Q E h)
  have F_first_position := d_first_position (P := P) (w := w) (base := base) (k := 1) (sp := (sp_first_position c)) T D_first_position (F_Position_init.mono (by omega)) (fun vs H Q E h => by
    obtain ⟨rfl, k⟩ := h
    rfl) (fun vs H Q E h => pure_first_position vs H Q E h)
  have F_position_of := d_position_of (P := P) (w := w) (base := base) (k := 1) (sp := (sp_position_of c)) T D_position_of (F_doubled.mono (by omega)) (F_last_bid.mono (by omega)) (F_last_word.mono (by omega)) (F_passes_at_end.mono (by omega)) (F_seat_on_turn.mono (by omega)) (F_side_of.mono (by omega)) (F_Position_init.mono (by omega)) (fun vs H Q E h => by
    obtain ⟨dl, a, m, rfl, hM0, k0⟩ := h
    rfl) (fun vs H Q E h => pure_position_of vs H Q E h)
  have F_is_at_end := d_is_at_end (P := P) (w := w) (base := base) (k := 1) (sp := (sp_is_at_end c)) T D_is_at_end (F_passes_to_end.mono (by omega)) (fun vs H Q E h => by
    obtain ⟨z, ⟨a, q, rfl, P, rfl⟩, k⟩ := h
    rfl) (fun vs H Q E h => pure_is_at_end Z vs H Q E h)
  have F_legal_calls := d_legal_calls (P := P) (w := w) (base := base) (k := 0) (sp := (sp_legal_calls c)) T D_legal_calls  (fun vs H Q E h => by
    obtain ⟨a, q, rfl, P, ⟨v0, v1, v2⟩, k⟩ := h
    rfl) (fun vs H Q E h => pure_legal_calls Z vs H Q E h)
  have F_position_behind := d_position_behind (P := P) (w := w) (base := base) (k := 1) (sp := (sp_position_behind c)) T D_position_behind (F_Position_init.mono (by omega)) (fun vs H Q E h => by
    obtain ⟨a, q, cc, rfl, P, k⟩ := h
    rfl) (fun vs H Q E h => pure_position_behind Z vs H Q E h)
  have W3_ways_with_bid : FnAt P w c.K mg base 0 "ways_with_bid" ["doubled_number", "passes", "by_other", "higher"] (sp_ways_with_bid (2 + 1)) := D_ways_with_bid.vac (fun _ _ _ _ _ _ us hl => match us, hl with | [_, _, _, _], _ => rfl) (fun vs H Q E h => by
    obtain ⟨z, ⟨d, p, h, o, _, h1, h2, _⟩, _⟩ := h
    omega)
  have W2_ways_with_bid := d_ways_with_bid (P := P) (w := w) (base := base) (k := 0) (sp := (sp_ways_with_bid (1 + 1))) T D_ways_with_bid (W3_ways_with_bid.mono (by omega)) (fun vs H Q E h => by
    obtain ⟨z, ⟨d, p, hh, o, rfl, hn, hd, hp, rfl⟩, k⟩ := h
    rfl) (fun vs H Q E h => pure_ways_with_bid 2 vs H Q E h)
  have W1_ways_with_bid := d_ways_with_bid (P := P) (w := w) (base := base) (k := 1) (sp := (sp_ways_with_bid (0 + 1))) T D_ways_with_bid (W2_ways_with_bid.mono (by omega)) (fun vs H Q E h => by
    obtain ⟨z, ⟨d, p, hh, o, rfl, hn, hd, hp, rfl⟩, k⟩ := h
    rfl) (fun vs H Q E h => pure_ways_with_bid 1 vs H Q E h)
  have F_ways_with_bid := d_ways_with_bid (P := P) (w := w) (base := base) (k := 2) (sp := (sp_ways_with_bid 0)) T D_ways_with_bid (W1_ways_with_bid.mono (by omega)) (fun vs H Q E h => by
    obtain ⟨z, ⟨d, p, hh, o, rfl, hn, hd, hp, rfl⟩, k⟩ := h
    rfl) (fun vs H Q E h => pure_ways_with_bid 0 vs H Q E h)
  have F_ways_from_bids := d_ways_from_bids (P := P) (w := w) (base := base) (k := 3) (sp := sp_ways_from_bids) T D_ways_from_bids (F_ways_with_bid.mono (by omega)) (fun vs H Q E h => by
    obtain ⟨rfl, k⟩ := h
    rfl) (fun vs H Q E h => pure_ways_from_bids vs H Q E h)
  have F_ways_of := d_ways_of (P := P) (w := w) (base := base) (k := 3) (sp := (sp_ways_of c)) T D_ways_of (F_is_at_end.mono (by omega)) (F_passes_to_end.mono (by omega)) (F_ways_with_bid.mono (by omega)) (fun vs H Q E h => by
    obtain ⟨z, ⟨a, b, q, rfl, P, hs, ⟨v0, v1, v2⟩, rfl⟩, k⟩ := h
    rfl) (fun vs H Q E h => pure_ways_of Z vs H Q E h)
  have W3_longest_with_bid : FnAt P w c.K mg base 0 "longest_with_bid" ["doubled_number", "passes", "by_other", "behind_bid"] (sp_longest_with_bid (2 + 1)) := D_longest_with_bid.vac (fun _ _ _ _ _ _ us hl => match us, hl with | [_, _, _, _], _ => rfl) (fun vs H Q E h => by
    obtain ⟨z, ⟨d, p, h, o, _, h1, h2, _⟩, _⟩ := h
    omega)
  have W2_longest_with_bid := d_longest_with_bid (P := P) (w := w) (base := base) (k := 0) (sp := (sp_longest_with_bid (1 + 1))) T D_longest_with_bid (W3_longest_with_bid.mono (by omega)) (fun vs H Q E h => by
    obtain ⟨z, ⟨d, p, hh, o, rfl, hn, hd, hp, rfl⟩, k⟩ := h
    rfl) (fun vs H Q E h => pure_longest_with_bid 2 vs H Q E h)
  have W1_longest_with_bid := d_longest_with_bid (P := P) (w := w) (base := base) (k := 1) (sp := (sp_longest_with_bid (0 + 1))) T D_longest_with_bid (W2_longest_with_bid.mono (by omega)) (fun vs H Q E h => by
    obtain ⟨z, ⟨d, p, hh, o, rfl, hn, hd, hp, rfl⟩, k⟩ := h
    rfl) (fun vs H Q E h => pure_longest_with_bid 1 vs H Q E h)
  have F_longest_with_bid := d_longest_with_bid (P := P) (w := w) (base := base) (k := 2) (sp := (sp_longest_with_bid 0)) T D_longest_with_bid (W1_longest_with_bid.mono (by omega)) (fun vs H Q E h => by
    obtain ⟨z, ⟨d, p, hh, o, rfl, hn, hd, hp, rfl⟩, k⟩ := h
    rfl) (fun vs H Q E h => pure_longest_with_bid 0 vs H Q E h)
  have F_longest_from_bid := d_longest_from_bid (P := P) (w := w) (base := base) (k := 3) (sp := sp_longest_from_bid) T D_longest_from_bid (F_longest_with_bid.mono (by omega)) (fun vs H Q E h => by
    obtain ⟨z, ⟨n, rfl, hn, rfl⟩, k⟩ := h
    rfl) (fun vs H Q E h => pure_longest_from_bid vs H Q E h)
  have F_longest_of := d_longest_of (P := P) (w := w) (base := base) (k := 4) (sp := (sp_longest_of c)) T D_longest_of (F_is_at_end.mono (by omega)) (F_longest_from_bid.mono (by omega)) (F_longest_with_bid.mono (by omega)) (F_passes_to_end.mono (by omega)) (fun vs H Q E h => by
    obtain ⟨z, ⟨a, q, rfl, P, ⟨v0, v1, v2⟩, rfl⟩, k⟩ := h
    rfl) (fun vs H Q E h => pure_longest_of Z vs H Q E h)
  have F_number_of := d_number_of (P := P) (w := w) (base := base) (k := 4) (sp := (sp_number_of c)) T D_number_of (F_first_position.mono (by omega)) (F_is_at_end.mono (by omega)) (F_legal_calls.mono (by omega)) (F_position_behind.mono (by omega)) (F_ways_from_bids.mono (by omega)) (F_ways_of.mono (by omega)) (fun vs H Q E h => by
    obtain ⟨z, ⟨dl, a, m, rfl, hM, hml, rfl⟩, k⟩ := h
    rfl) (fun vs H Q E h => pure_number_of Z vs H Q E h)
  have F_call_with := d_call_with (P := P) (w := w) (base := base) (k := 4) (sp := (sp_call_with c)) T D_call_with (F_legal_calls.mono (by omega)) (F_position_behind.mono (by omega)) (F_ways_of.mono (by omega)) (fun vs H Q E h => by
    obtain ⟨a, b, q, n, x, rfl, P, hs, v, hf, k⟩ := h
    rfl) (fun vs H Q E h => pure_call_with Z vs H Q E h)
  have F_auction_with_number := d_auction_with_number (P := P) (w := w) (base := base) (k := 5) (sp := sp_auction_with_number) T D_auction_with_number (F_call_with.mono (by omega)) (F_first_position.mono (by omega)) (F_is_at_end.mono (by omega)) (F_position_behind.mono (by omega)) (F_ways_from_bids.mono (by omega)) (F_ways_of.mono (by omega)) (fun vs H Q E h => by
    obtain ⟨n, rfl, k⟩ := h
    rfl) (fun vs H Q E h => pure_auction_with_number Z vs H Q E h)
  have F_bound_number := d_bound_number (P := P) (w := w) (base := base) (k := 0) (sp := (sp_bound_number c)) T D_bound_number  (fun vs H Q E h => by
    obtain ⟨z, ⟨a, A, s, hs, p, rfl, T, hp, rfl⟩, k⟩ := h
    rfl) (fun vs H Q E h => pure_bound_number Z vs H Q E h)
  have F_show_table := d_show_table (P := P) (w := w) (base := base) (k := 2) (sp := (sp_ask c .table)) T D_show_table (F_bound_number.mono (by omega)) (F_doubled.mono (by omega)) (F_is_over.mono (by omega)) (F_last_bid.mono (by omega)) (F_passes_at_end.mono (by omega)) (F_turn_of.mono (by omega)) (fun vs H Q E h => by
    obtain ⟨v, F, s, rfl, tf, k⟩ := h
    rfl) (fun vs H Q E h => pure_show_table Z vs H Q E h)
  have F_legals := d_legals (P := P) (w := w) (base := base) (k := 3) (sp := (sp_ask c .legals)) T D_legals (F_is_legal.mono (by omega)) (F_must_pass.mono (by omega)) (F_turn_of.mono (by omega)) (fun vs H Q E h => by
    obtain ⟨v, F, s, rfl, tf, k⟩ := h
    rfl) (fun vs H Q E h => pure_legals Z vs H Q E h)
  have F_contract := d_contract (P := P) (w := w) (base := base) (k := 2) (sp := (sp_ask c .contract)) T D_contract (F_doubled.mono (by omega)) (F_first_to_name.mono (by omega)) (F_is_over.mono (by omega)) (F_last_bid.mono (by omega)) (F_partner_of.mono (by omega)) (F_side_of_last_bid.mono (by omega)) (fun vs H Q E h => by
    obtain ⟨v, F, s, rfl, tf, k⟩ := h
    rfl) (fun vs H Q E h => pure_contract Z vs H Q E h)
  have F_ways := d_ways (P := P) (w := w) (base := base) (k := 4) (sp := (sp_ask c .ways)) T D_ways (F_bytes_of.mono (by omega)) (F_position_of.mono (by omega)) (F_ways_from_bids.mono (by omega)) (F_ways_of.mono (by omega)) (fun vs H Q E h => by
    obtain ⟨v, F, s, rfl, tf, k⟩ := h
    rfl) (fun vs H Q E h => pure_ways Z vs H Q E h)
  have F_longest := d_longest (P := P) (w := w) (base := base) (k := 5) (sp := (sp_ask c .longest)) T D_longest (F_longest_of.mono (by omega)) (F_position_of.mono (by omega)) (fun vs H Q E h => by
    obtain ⟨v, F, s, rfl, tf, k⟩ := h
    rfl) (fun vs H Q E h => pure_longest Z vs H Q E h)
  have F_number := d_number (P := P) (w := w) (base := base) (k := 5) (sp := (sp_ask c .number)) T D_number (F_bytes_of.mono (by omega)) (F_is_over.mono (by omega)) (F_number_of.mono (by omega)) (fun vs H Q E h => by
    obtain ⟨v, F, s, rfl, tf, k⟩ := h
    rfl) (fun vs H Q E h => pure_number Z vs H Q E h)
  have F_nth := d_nth (P := P) (w := w) (base := base) (k := 6) (sp := (sp_nth c)) T D_nth (F_are_bytes.mono (by omega)) (F_auction_with_number.mono (by omega)) (F_bytes_of_auction.mono (by omega)) (F_value_of_numeral.mono (by omega)) (fun vs H Q E h => by
    obtain ⟨s, d, b, t, rfl, hs, hl, k⟩ := h
    rfl) (fun vs H Q E h => pure_nth Z vs H Q E h)
  have F_auction_text := d_auction_text (P := P) (w := w) (base := base) (k := 2) (sp := (sp_ask c .text)) T D_auction_text (F_bytes_of_auction.mono (by omega)) (fun vs H Q E h => by
    obtain ⟨v, F, s, rfl, tf, k⟩ := h
    rfl) (fun vs H Q E h => pure_auction_text Z vs H Q E h)
  have F_calls_made := d_calls_made (P := P) (w := w) (base := base) (k := 0) (sp := (sp_ask c .made)) T D_calls_made  (fun vs H Q E h => by
    obtain ⟨v, F, s, rfl, tf, k⟩ := h
    rfl) (fun vs H Q E h => pure_calls_made Z vs H Q E h)
  have F_named := d_named (P := P) (w := w) (base := base) (k := 2) (sp := (sp_named c)) T D_named (F_first_to_name.mono (by omega)) (fun vs H Q E h => by
    obtain ⟨v, F, s, x, y, rfl, tf, k⟩ := h
    rfl) (fun vs H Q E h => pure_named Z vs H Q E h)
  have F_asked_answer := d_asked_answer (P := P) (w := w) (base := base) (k := 6) (sp := (sp_asked_answer c)) T D_asked_answer (F_auction_text.mono (by omega)) (F_calls_made.mono (by omega)) (F_contract.mono (by omega)) (F_legals.mono (by omega)) (F_longest.mono (by omega)) (F_number.mono (by omega)) (F_show_table.mono (by omega)) (F_ways.mono (by omega)) (fun vs H Q E h => by
    obtain ⟨v, F, s, x, q, rfl, tf, hx, k⟩ := h
    rfl) (fun vs H Q E h => pure_asked_answer Z vs H Q E h)
  have F_answer_of := d_answer_of (P := P) (w := w) (base := base) (k := 7) (sp := (sp_answer_of c)) T D_answer_of (F_asked_answer.mono (by omega)) (F_board.mono (by omega)) (F_call_at_table.mono (by omega)) (F_deal.mono (by omega)) (F_decide.mono (by omega)) (F_look.mono (by omega)) (F_named.mono (by omega)) (F_nth.mono (by omega)) (F_read_auction.mono (by omega)) (F_undo.mono (by omega)) (fun vs H Q E h => by
    obtain ⟨as, F, s, p, b, xs, t, q, rfl, S, hp, hb, hl, hq, k⟩ := h
    rfl) (fun vs H Q E h => pure_answer_of Z vs H Q E h)
  have F_answers := d_answers (P := P) (w := w) (base := base) (k := 7) (sp := (sp_answers c)) T hS D_answers (F_answer_of.mono (by omega)) (F_Session_init.mono (by omega)) (fun vs H Q E h => by
    obtain ⟨a, ns, rfl, hs, hask, k⟩ := h
    rfl) (fun vs H Q E h => pure_answers Z hSh vs H Q E h)
  exact F_answers.mono (by omega)
/-- the def of the statement, with one function object for all heaps -/
theorem finish {P : Program} {w : World} {K : PySem.W.Frag} {mg : Str → Option Value} {fa : Addr} {sp : Sp} (D : DefAt K mg "answers" s_answers) (hmg : mg "answers" = some (.ref fa))
    (A : ∀ base : Heap, FnAt P w K mg base 30 "answers" ["calls"] sp) :
    ∃ fd : FuncData, (∀ (s : Shared) (us : List Value), us.length = (["calls"] : List Str).length → BindsTo s fd ⟨us, []⟩ ((["calls"] : List Str).zip us)) ∧ ∀ base : Heap, FnOk P w K mg base CX0 30 fa fd ["calls"] sp := by
  obtain ⟨f, fd, hm, F⟩ := D.ex
  obtain ⟨oc, od, kV, doc, pm, an, cdv, ct, osl, hfd, lk, _⟩ := F.ex
  rw [hmg] at hm
  have ef : fa = f := by
    have := Option.some.inj hm
    injection this
  subst ef
  refine ⟨fd, fun s us hu => ?_, fun base => ?_⟩
  · subst hfd
    exact match us, hu with | [_], _ => .of_eq rfl
  · obtain ⟨f2, fd2, ok, hm2, _, _, oc2, od2, osl2, lk2⟩ := (A base).ex
    rw [hmg] at hm2
    have ef2 : fa = f2 := by
      have := Option.some.inj hm2
      injection this
    subst ef2
    rw [lk] at lk2
    have e := Option.some.inj lk2
    have ed : PySem.Data.func fd = PySem.Data.func fd2 := congrArg Obj.data e
    have e3 : fd = fd2 := by injection ed
    rw [e3]
    exact ok
/-- the promise in the words of the statement -/
def spAns (K : PySem.W.Frag) : Sp := sp_answers ⟨K, 0, 0, 0⟩
theorem TupK.mk' {K : PySem.W.Frag} {a : Addr} {od : Option Addr} {its : Array Value} {n : Nat} {osl : Array (Option Value)} {vs : List V} (l : K.lookup a = some ⟨.type "tuple", od, .seq its n, osl⟩) (hz : its.size ≤ sizeLine) (v : Vals vs its.toList) : TupK K a vs := ⟨_, _, _, l, rfl, rfl, hz, v⟩
def AllT (K : PySem.W.Frag) : List Addr → List (Int × Int) → Prop
  | [], [] => True
  | b :: as, x :: xs => TupK K b [.int x.1, .int x.2] ∧ AllT K as xs
  | _, _ => False
theorem AllT.all {K : PySem.W.Frag} : ∀ {as : List Addr} {xs : List (Int × Int)}, AllT K as xs → as.length = xs.length ∧ ∀ (i : Nat) (b : Addr) (x : Int × Int), as[i]? = some b → xs[i]? = some x → TupK K b [.int x.1, .int x.2]
  | [], [], _ => ⟨rfl, fun i b x h => by cases h⟩
  | [], _ :: _, h => h.elim
  | _ :: _, [], h => h.elim
  | b :: as, x :: xs, h => by
    obtain ⟨e, g⟩ := AllT.all h.2
    refine ⟨by rw [List.length_cons, List.length_cons, e], fun i c y h1 h2 => ?_⟩
    cases i with
    | zero =>
      obtain rfl : b = c := Option.some.inj h1
      obtain rfl : x = y := Option.some.inj h2
      exact h.1
    | succ i => exact g i c y h1 h2
theorem ShapesAt.mk' {K : PySem.W.Frag} {aS : Addr} {as : List Addr} {xs : List (Int × Int)} (h : TupK K aS (as.map V.ref)) (e : AllT K as xs) : ShapesAt K aS xs := ⟨as, h, e.all.1, e.all.2⟩
theorem initCls {K : PySem.W.Frag} {h : Heap} {mg : Str → Option Value} {x qual : Str} {C f : Addr} {st : Stmt} {oc : Value} {od an : Option Addr} {osl : Array (Option Value)} {kV doc pm cdv ct : Value} {fs : List Str} (X : K.In h) (N : h.Ns mainGlobals mg)
    (aC : PySem.W.nsIn K mainGlobals x = some (some (.ref C))) (mk : PySem.W.makesIn K C = true) (a : PySem.W.findIn K (.ref C) "__init__" = some (some (.ref f))) (i : PySem.W.isFn K (.ref f) = true) (kc : PySem.W.keepIn K (.ref C) = true)
    (l : K.lookup f = some ⟨oc, od, .func (PySem.W.fnOf "__init__" qual (defArgs st) (defBody st) (defScope st) .none kV doc pm an cdv ct), osl⟩)
    (c : PySem.W.codeIn K cdv qual = true) (k : PySem.W.keepIn K (.ref f) = true) (cl : Cls K C) (no : ∀ f ∈ fs, NoAttr K C f) : ∃ C, InitAt K mg x C st qual ∧ ClsFs K C fs :=
  ⟨C, InitAt.mk' X N aC mk a i kc l c k, cl, no⟩
theorem shapesOf {K : PySem.W.Frag} {h : Heap} {mg : Str → Option Value} {aS : Addr} {xs : List (Int × Int)} (X : K.In h) (N : h.Ns mainGlobals mg) (a : PySem.W.nsIn K mainGlobals "SHAPES" = some (some (.ref aS))) (s : ShapesAt K aS xs) : ∃ aS, mg "SHAPES" = some (.ref aS) ∧ ShapesAt K aS xs := ⟨aS, PySem.W.mg_of X N a, s⟩
theorem finAll {P : Program} {w : World} {K : PySem.W.Frag} {mg : Str → Option Value} {CT CS CP aS fa : Addr} (Z_Table : ClsFs K CT ["dealer", "vulnerability", "made", "barred", "once", "waiting", "mending", "past"]) (Z_Session : ClsFs K CS ["table"]) (Z_Position : ClsFs K CP ["bid", "doubled_number", "passes", "by_other"])
    (i_BIDS : GInt mg "BIDS" 35)
    (i_BID_WITHDRAWN : GInt mg "BID_WITHDRAWN" 4)
    (i_BLANK : GInt mg "BLANK" 32)
    (i_CALLS : GInt mg "CALLS" 38)
    (i_CALL_WITHDRAWN : GInt mg "CALL_WITHDRAWN" 6)
    (i_DOUBLE : GInt mg "DOUBLE" 1)
    (i_FEWER_DONE : GInt mg "FEWER_DONE" (-14))
    (i_FIRST_BID : GInt mg "FIRST_BID" 3)
    (i_IS_OVER : GInt mg "IS_OVER" (-4))
    (s_LETTERS : GStr mg "LETTERS" "CDHSN")
    (i_MOST_BOARD : GInt mg "MOST_BOARD" 1000000000)
    (i_MOST_DONE : GInt mg "MOST_DONE" 320)
    (i_MOST_UNDONE : GInt mg "MOST_UNDONE" 400)
    (i_MUST_MEND : GInt mg "MUST_MEND" (-8))
    (i_MUST_PASS : GInt mg "MUST_PASS" (-6))
    (i_NOTHING_WAITS : GInt mg "NOTHING_WAITS" (-7))
    (i_NOTHING_WRONG : GInt mg "NOTHING_WRONG" 0)
    (i_NOT_LEGAL : GInt mg "NOT_LEGAL" 2)
    (i_NOT_OVER : GInt mg "NOT_OVER" (-10))
    (i_NOT_TURN_BY_TURN : GInt mg "NOT_TURN_BY_TURN" (-11))
    (i_NO_AUCTION : GInt mg "NO_AUCTION" (-3))
    (i_NO_BID : GInt mg "NO_BID" (-1))
    (i_NO_CALL : GInt mg "NO_CALL" 1)
    (i_NO_SUCH_AUCTION : GInt mg "NO_SUCH_AUCTION" (-13))
    (i_OUT_OF_RANGE : GInt mg "OUT_OF_RANGE" (-1))
    (i_OUT_OF_TURN : GInt mg "OUT_OF_TURN" 2)
    (i_OVER_BEFORE : GInt mg "OVER_BEFORE" 3)
    (i_PASS : GInt mg "PASS" 0)
    (i_PASS_WITHDRAWN : GInt mg "PASS_WITHDRAWN" 5)
    (i_REDOUBLE : GInt mg "REDOUBLE" 2)
    (i_STANDS : GInt mg "STANDS" 0)
    (i_STRAINS : GInt mg "STRAINS" 5)
    (i_TOO_LOW : GInt mg "TOO_LOW" 1)
    (i_TOO_MANY_DONE : GInt mg "TOO_MANY_DONE" (-9))
    (i_WAITS : GInt mg "WAITS" (-5))
    (i_WITHDRAWN_AT_ONCE : GInt mg "WITHDRAWN_AT_ONCE" 3)
    (i_WRONG_TEXT : GInt mg "WRONG_TEXT" (-12))
    (b_all : mg "all" = none)
    (b_enumerate : mg "enumerate" = none)
    (b_len : mg "len" = none)
    (b_list : mg "list" = none)
    (b_max : mg "max" = none)
    (b_ord : mg "ord" = none)
    (b_range : mg "range" = none)
    (b_reversed : mg "reversed" = none)
    (b_str : mg "str" = none)
    (hS : mg "SHAPES" = some (.ref aS)) (hSh : ShapesAt K aS shL) (hmg : mg "answers" = some (.ref fa))
    (D_side_of : DefAt K mg "side_of" s_side_of)
    (D_partner_of : DefAt K mg "partner_of" s_partner_of)
    (D_last_bid : DefAt K mg "last_bid" s_last_bid)
    (D_side_of_last_bid : DefAt K mg "side_of_last_bid" s_side_of_last_bid)
    (D_last_word : DefAt K mg "last_word" s_last_word)
    (D_passes_at_end : DefAt K mg "passes_at_end" s_passes_at_end)
    (D_passes_to_end : DefAt K mg "passes_to_end" s_passes_to_end)
    (D_is_over : DefAt K mg "is_over" s_is_over)
    (D_seat_on_turn : DefAt K mg "seat_on_turn" s_seat_on_turn)
    (D_doubled : DefAt K mg "doubled" s_doubled)
    (D_may_stand : DefAt K mg "may_stand" s_may_stand)
    (D_is_legal : DefAt K mg "is_legal" s_is_legal)
    (D_first_to_name : DefAt K mg "first_to_name" s_first_to_name)
    (I_Table : InitAt K mg "Table" CT s_Table_init "Table.__init__")
    (D_turn_of : DefAt K mg "turn_of" s_turn_of)
    (D_must_pass : DefAt K mg "must_pass" s_must_pass)
    (D_remember : DefAt K mg "remember" s_remember)
    (D_go_back : DefAt K mg "go_back" s_go_back)
    (D_let_stand : DefAt K mg "let_stand" s_let_stand)
    (D_bar_partner : DefAt K mg "bar_partner" s_bar_partner)
    (D_is_needed_to_mend : DefAt K mg "is_needed_to_mend" s_is_needed_to_mend)
    (D_make_call : DefAt K mg "make_call" s_make_call)
    (D_mended_bid : DefAt K mg "mended_bid" s_mended_bid)
    (D_decide_waiting : DefAt K mg "decide_waiting" s_decide_waiting)
    (D_text_of_call : DefAt K mg "text_of_call" s_text_of_call)
    (D_bytes_of : DefAt K mg "bytes_of" s_bytes_of)
    (D_bytes_of_auction : DefAt K mg "bytes_of_auction" s_bytes_of_auction)
    (D_words_of : DefAt K mg "words_of" s_words_of)
    (D_call_of_word : DefAt K mg "call_of_word" s_call_of_word)
    (D_value_of_numeral : DefAt K mg "value_of_numeral" s_value_of_numeral)
    (I_Session : InitAt K mg "Session" CS s_Session_init "Session.__init__")
    (D_are_bytes : DefAt K mg "are_bytes" s_are_bytes)
    (D_deal : DefAt K mg "deal" s_deal)
    (D_board : DefAt K mg "board" s_board)
    (D_call_at_table : DefAt K mg "call_at_table" s_call_at_table)
    (D_decide : DefAt K mg "decide" s_decide)
    (D_undo : DefAt K mg "undo" s_undo)
    (D_looked_at : DefAt K mg "looked_at" s_looked_at)
    (D_look : DefAt K mg "look" s_look)
    (D_read_auction : DefAt K mg "read_auction" s_read_auction)
    (I_Position : InitAt K mg "Position" CP s_Position_init "Position.__init__")
    (D_first_position : DefAt K mg "first_position" s_first_position)
    (D_position_of : DefAt K mg "position_of" s_position_of)
    (D_is_at_end : DefAt K mg "is_at_end" s_is_at_end)
    (D_legal_calls : DefAt K mg "legal_calls" s_legal_calls)
    (D_position_behind : DefAt K mg "position_behind" s_position_behind)
    (D_ways_with_bid : DefAt K mg "ways_with_bid" s_ways_with_bid)
    (D_ways_from_bids : DefAt K mg "ways_from_bids" s_ways_from_bids)
    (D_ways_of : DefAt K mg "ways_of" s_ways_of)
    (D_longest_with_bid : DefAt K mg "longest_with_bid" s_longest_with_bid)
    (D_longest_from_bid : DefAt K mg "longest_from_bid" s_longest_from_bid)
    (D_longest_of : DefAt K mg "longest_of" s_longest_of)
    (D_number_of : DefAt K mg "number_of" s_number_of)
    (D_auction_with_number : DefAt K mg "auction_with_number" s_auction_with_number)
    (D_call_with : DefAt K mg "call_with" s_call_with)
    (D_show_table : DefAt K mg "show_table" s_show_table)
    (D_bound_number : DefAt K mg "bound_number" s_bound_number)
    (D_legals : DefAt K mg "legals" s_legals)
    (D_contract : DefAt K mg "contract" s_contract)
    (D_ways : DefAt K mg "ways" s_ways)
    (D_longest : DefAt K mg "longest" s_longest)
    (D_number : DefAt K mg "number" s_number)
    (D_nth : DefAt K mg "nth" s_nth)
    (D_auction_text : DefAt K mg "auction_text" s_auction_text)
    (D_calls_made : DefAt K mg "calls_made" s_calls_made)
    (D_named : DefAt K mg "named" s_named)
    (D_answers : DefAt K mg "answers" s_answers)
    (D_answer_of : DefAt K mg "answer_of" s_answer_of)
    (D_asked_answer : DefAt K mg "asked_answer" s_asked_answer) :
    ∃ fd : FuncData, (∀ (s : Shared) (us : List Value), us.length = (["calls"] : List Str).length → BindsTo s fd ⟨us, []⟩ ((["calls"] : List Str).zip us)) ∧ ∀ base : Heap, K.In base → base.Ns mainGlobals mg → FnOk P w K mg base CX0 30 fa fd ["calls"] (spAns K) := by
  obtain ⟨fd, h1, h2⟩ := finish (P := P) (w := w) D_answers hmg fun base => assemble (base := base) (c := ⟨K, CT, CS, CP⟩) ⟨Z_Table, Z_Session, Z_Position⟩ ⟨i_BIDS, i_BID_WITHDRAWN, i_BLANK, i_CALLS, i_CALL_WITHDRAWN, i_DOUBLE, i_FEWER_DONE, i_FIRST_BID, i_IS_OVER, s_LETTERS, i_MOST_BOARD, i_MOST_DONE, i_MOST_UNDONE, i_MUST_MEND, i_MUST_PASS, i_NOTHING_WAITS, i_NOTHING_WRONG, i_NOT_LEGAL, i_NOT_OVER, i_NOT_TURN_BY_TURN, i_NO_AUCTION, i_NO_BID, i_NO_CALL, i_NO_SUCH_AUCTION, i_OUT_OF_RANGE, i_OUT_OF_TURN, i_OVER_BEFORE, i_PASS, i_PASS_WITHDRAWN, i_REDOUBLE, i_STANDS, i_STRAINS, i_TOO_LOW, i_TOO_MANY_DONE, i_WAITS, i_WITHDRAWN_AT_ONCE, i_WRONG_TEXT, b_all, b_enumerate, b_len, b_list, b_max, b_ord, b_range, b_reversed, b_str⟩ hSh hS D_side_of D_partner_of D_last_bid D_side_of_last_bid D_last_word D_passes_at_end D_passes_to_end D_is_over D_seat_on_turn D_doubled D_may_stand D_is_legal D_first_to_name I_Table D_turn_of D_must_pass D_remember D_go_back D_let_stand D_bar_partner D_is_needed_to_mend D_make_call D_mended_bid D_decide_waiting D_text_of_call D_bytes_of D_bytes_of_auction D_words_of D_call_of_word D_value_of_numeral I_Session D_are_bytes D_deal D_board D_call_at_table D_decide D_undo D_looked_at D_look D_read_auction I_Position D_first_position D_position_of D_is_at_end D_legal_calls D_position_behind D_ways_with_bid D_ways_from_bids D_ways_of D_longest_with_bid D_longest_from_bid D_longest_of D_number_of D_auction_with_number D_call_with D_show_table D_bound_number D_legals D_contract D_ways D_longest D_number D_nth D_auction_text D_calls_made D_named D_answers D_answer_of D_asked_answer
  exact ⟨fd, h1, fun base _ _ => h2 base⟩
end G
open PySem PySem.W PyProof.Rows L2
set_option maxRecDepth 100000 in
set_option maxHeartbeats 8000000 in
theorem PySem.Challenge.cw_bridgebids_s01_answers_holds : PySem.Challenge.rw_bridgebids_s01_answers.Holds := by
  w_on; k_headS; (case hw => exact ⟨[.list [.int 12]], by decide +kernel, by decide +kernel⟩)
  k_fillS
  refine L2.walk_specK (r := PySem.Challenge.rw_bridgebids_s01_answers) (k := 30) (CX := L2.CX0) (ps := ["calls"]) (sp := G.spAns) (by decide +kernel) rfl rfl ⟨rfl, by decide, by decide⟩ (fun w h Y => PySem.W.kIn_of Y) ?F ?S (fun _ _ _ _ z => z)
  case F =>
    intro w mg fa h Y KX N hmg
    have i_BIDS : G.GInt mg "BIDS" 35 := by
      refine' G.GInt.mk' KX N ?a_BIDS
      (case a_BIDS => k_is)
    have i_BID_WITHDRAWN : G.GInt mg "BID_WITHDRAWN" 4 := by
      refine' G.GInt.mk' KX N ?a_BID_WITHDRAWN
      (case a_BID_WITHDRAWN => k_is)
    have i_BLANK : G.GInt mg "BLANK" 32 := by
      refine' G.GInt.mk' KX N ?a_BLANK
      (case a_BLANK => k_is)
    have i_CALLS : G.GInt mg "CALLS" 38 := by
      refine' G.GInt.mk' KX N ?a_CALLS
      (case a_CALLS => k_is)
    have i_CALL_WITHDRAWN : G.GInt mg "CALL_WITHDRAWN" 6 := by
      refine' G.GInt.mk' KX N ?a_CALL_WITHDRAWN
      (case a_CALL_WITHDRAWN => k_is)
    have i_DOUBLE : G.GInt mg "DOUBLE" 1 := by
      refine' G.GInt.mk' KX N ?a_DOUBLE
      (case a_DOUBLE => k_is)
    have i_FEWER_DONE : G.GInt mg "FEWER_DONE" (-14) := by
      refine' G.GInt.mk' KX N ?a_FEWER_DONE
      (case a_FEWER_DONE => k_is)
    have i_FIRST_BID : G.GInt mg "FIRST_BID" 3 := by
      refine' G.GInt.mk' KX N ?a_FIRST_BID
      (case a_FIRST_BID => k_is)
    have i_IS_OVER : G.GInt mg "IS_OVER" (-4) := by
      refine' G.GInt.mk' KX N ?a_IS_OVER
      (case a_IS_OVER => k_is)
    have s_LETTERS : G.GStr mg "LETTERS" "CDHSN" := by
      refine' G.GStr.mk' KX N ?a_LETTERS
      (case a_LETTERS => k_is)
    have i_MOST_BOARD : G.GInt mg "MOST_BOARD" 1000000000 := by
      refine' G.GInt.mk' KX N ?a_MOST_BOARD
      (case a_MOST_BOARD => k_is)
    have i_MOST_DONE : G.GInt mg "MOST_DONE" 320 := by
      refine' G.GInt.mk' KX N ?a_MOST_DONE
      (case a_MOST_DONE => k_is)
    have i_MOST_UNDONE : G.GInt mg "MOST_UNDONE" 400 := by
      refine' G.GInt.mk' KX N ?a_MOST_UNDONE
      (case a_MOST_UNDONE => k_is)
    have i_MUST_MEND : G.GInt mg "MUST_MEND" (-8) := by
      refine' G.GInt.mk' KX N ?a_MUST_MEND
      (case a_MUST_MEND => k_is)
    have i_MUST_PASS : G.GInt mg "MUST_PASS" (-6) := by
      refine' G.GInt.mk' KX N ?a_MUST_PASS
      (case a_MUST_PASS => k_is)
    have i_NOTHING_WAITS : G.GInt mg "NOTHING_WAITS" (-7) := by
      refine' G.GInt.mk' KX N ?a_NOTHING_WAITS
      (case a_NOTHING_WAITS => k_is)
    have i_NOTHING_WRONG : G.GInt mg "NOTHING_WRONG" 0 := by
      refine' G.GInt.mk' KX N ?a_NOTHING_WRONG
      (case a_NOTHING_WRONG => k_is)
    have i_NOT_LEGAL : G.GInt mg "NOT_LEGAL" 2 := by
      refine' G.GInt.mk' KX N ?a_NOT_LEGAL
      (case a_NOT_LEGAL => k_is)
    have i_NOT_OVER : G.GInt mg "NOT_OVER" (-10) := by
      refine' G.GInt.mk' KX N ?a_NOT_OVER
      (case a_NOT_OVER => k_is)
    have i_NOT_TURN_BY_TURN : G.GInt mg "NOT_TURN_BY_TURN" (-11) := by
      refine' G.GInt.mk' KX N ?a_NOT_TURN_BY_TURN
      (case a_NOT_TURN_BY_TURN => k_is)
    have i_NO_AUCTION : G.GInt mg "NO_AUCTION" (-3) := by
      refine' G.GInt.mk' KX N ?a_NO_AUCTION
      (case a_NO_AUCTION => k_is)
    have i_NO_BID : G.GInt mg "NO_BID" (-1) := by
      refine' G.GInt.mk' KX N ?a_NO_BID
      (case a_NO_BID => k_is)
    have i_NO_CALL : G.GInt mg "NO_CALL" 1 := by
      refine' G.GInt.mk' KX N ?a_NO_CALL
      (case a_NO_CALL => k_is)
    have i_NO_SUCH_AUCTION : G.GInt mg "NO_SUCH_AUCTION" (-13) := by
      refine' G.GInt.mk' KX N ?a_NO_SUCH_AUCTION
      (case a_NO_SUCH_AUCTION => k_is)
    have i_OUT_OF_RANGE : G.GInt mg "OUT_OF_RANGE" (-1) := by
      refine' G.GInt.mk' KX N ?a_OUT_OF_RANGE
      (case a_OUT_OF_RANGE => k_is)
    have i_OUT_OF_TURN : G.GInt mg "OUT_OF_TURN" 2 := by
      refine' G.GInt.mk' KX N ?a_OUT_OF_TURN
      (case a_OUT_OF_TURN => k_is)
    have i_OVER_BEFORE : G.GInt mg "OVER_BEFORE" 3 := by
      refine' G.GInt.mk' KX N ?a_OVER_BEFORE
      (case a_OVER_BEFORE => k_is)
    have i_PASS : G.GInt mg "PASS" 0 := by
      refine' G.GInt.mk' KX N ?a_PASS
      (case a_PASS => k_is)
    have i_PASS_WITHDRAWN : G.GInt mg "PASS_WITHDRAWN" 5 := by
      refine' G.GInt.mk' KX N ?a_PASS_WITHDRAWN
      (case a_PASS_WITHDRAWN => k_is)
    have i_REDOUBLE : G.GInt mg "REDOUBLE" 2 := by
      refine' G.GInt.mk' KX N ?a_REDOUBLE
      (case a_REDOUBLE => k_is)
    have i_STANDS : G.GInt mg "STANDS" 0 := by
      refine' G.GInt.mk' KX N ?a_STANDS
      (case a_STANDS => k_is)
    have i_STRAINS : G.GInt mg "STRAINS" 5 := by
      refine' G.GInt.mk' KX N ?a_STRAINS
      (case a_STRAINS => k_is)
    have i_TOO_LOW : G.GInt mg "TOO_LOW" 1 := by
      refine' G.GInt.mk' KX N ?a_TOO_LOW
      (case a_TOO_LOW => k_is)
    have i_TOO_MANY_DONE : G.GInt mg "TOO_MANY_DONE" (-9) := by
      refine' G.GInt.mk' KX N ?a_TOO_MANY_DONE
      (case a_TOO_MANY_DONE => k_is)
    have i_WAITS : G.GInt mg "WAITS" (-5) := by
      refine' G.GInt.mk' KX N ?a_WAITS
      (case a_WAITS => k_is)
    have i_WITHDRAWN_AT_ONCE : G.GInt mg "WITHDRAWN_AT_ONCE" 3 := by
      refine' G.GInt.mk' KX N ?a_WITHDRAWN_AT_ONCE
      (case a_WITHDRAWN_AT_ONCE => k_is)
    have i_WRONG_TEXT : G.GInt mg "WRONG_TEXT" (-12) := by
      refine' G.GInt.mk' KX N ?a_WRONG_TEXT
      (case a_WRONG_TEXT => k_is)
    have b_all : mg "all" = none := by
      refine' PySem.W.mg_none_of KX N ?a_all
      (case a_all => k_is)
    have b_enumerate : mg "enumerate" = none := by
      refine' PySem.W.mg_none_of KX N ?a_enumerate
      (case a_enumerate => k_is)
    have b_len : mg "len" = none := by
      refine' PySem.W.mg_none_of KX N ?a_len
      (case a_len => k_is)
    have b_list : mg "list" = none := by
      refine' PySem.W.mg_none_of KX N ?a_list
      (case a_list => k_is)
    have b_max : mg "max" = none := by
      refine' PySem.W.mg_none_of KX N ?a_max
      (case a_max => k_is)
    have b_ord : mg "ord" = none := by
      refine' PySem.W.mg_none_of KX N ?a_ord
      (case a_ord => k_is)
    have b_range : mg "range" = none := by
      refine' PySem.W.mg_none_of KX N ?a_range
      (case a_range => k_is)
    have b_reversed : mg "reversed" = none := by
      refine' PySem.W.mg_none_of KX N ?a_reversed
      (case a_reversed => k_is)
    have b_str : mg "str" = none := by
      refine' PySem.W.mg_none_of KX N ?a_str
      (case a_str => k_is)
    refine' (fun D_side_of => ?nx_side_of) (G.DefAt.mk' (x := "side_of") (st := G.s_side_of) KX N ?a_side_of ?l_side_of ?c_side_of ?k_side_of)
    (case a_side_of => k_is); (case l_side_of => k_is); (case c_side_of => k_is); (case k_side_of => k_is)
    refine' (fun D_partner_of => ?nx_partner_of) (G.DefAt.mk' (x := "partner_of") (st := G.s_partner_of) KX N ?a_partner_of ?l_partner_of ?c_partner_of ?k_partner_of)
    (case a_partner_of => k_is); (case l_partner_of => k_is); (case c_partner_of => k_is); (case k_partner_of => k_is)
    refine' (fun D_last_bid => ?nx_last_bid) (G.DefAt.mk' (x := "last_bid") (st := G.s_last_bid) KX N ?a_last_bid ?l_last_bid ?c_last_bid ?k_last_bid)
    (case a_last_bid => k_is); (case l_last_bid => k_is); (case c_last_bid => k_is); (case k_last_bid => k_is)
    refine' (fun D_side_of_last_bid => ?nx_side_of_last_bid) (G.DefAt.mk' (x := "side_of_last_bid") (st := G.s_side_of_last_bid) KX N ?a_side_of_last_bid ?l_side_of_last_bid ?c_side_of_last_bid ?k_side_of_last_bid)
    (case a_side_of_last_bid => k_is); (case l_side_of_last_bid => k_is); (case c_side_of_last_bid => k_is); (case k_side_of_last_bid => k_is)
    refine' (fun D_last_word => ?nx_last_word) (G.DefAt.mk' (x := "last_word") (st := G.s_last_word) KX N ?a_last_word ?l_last_word ?c_last_word ?k_last_word)
    (case a_last_word => k_is); (case l_last_word => k_is); (case c_last_word => k_is); (case k_last_word => k_is)
    refine' (fun D_passes_at_end => ?nx_passes_at_end) (G.DefAt.mk' (x := "passes_at_end") (st := G.s_passes_at_end) KX N ?a_passes_at_end ?l_passes_at_end ?c_passes_at_end ?k_passes_at_end)
    (case a_passes_at_end => k_is); (case l_passes_at_end => k_is); (case c_passes_at_end => k_is); (case k_passes_at_end => k_is)
    refine' (fun D_passes_to_end => ?nx_passes_to_end) (G.DefAt.mk' (x := "passes_to_end") (st := G.s_passes_to_end) KX N ?a_passes_to_end ?l_passes_to_end ?c_passes_to_end ?k_passes_to_end)
    (case a_passes_to_end => k_is); (case l_passes_to_end => k_is); (case c_passes_to_end => k_is); (case k_passes_to_end => k_is)
    refine' (fun D_is_over => ?nx_is_over) (G.DefAt.mk' (x := "is_over") (st := G.s_is_over) KX N ?a_is_over ?l_is_over ?c_is_over ?k_is_over)
    (case a_is_over => k_is); (case l_is_over => k_is); (case c_is_over => k_is); (case k_is_over => k_is)
    refine' (fun D_seat_on_turn => ?nx_seat_on_turn) (G.DefAt.mk' (x := "seat_on_turn") (st := G.s_seat_on_turn) KX N ?a_seat_on_turn ?l_seat_on_turn ?c_seat_on_turn ?k_seat_on_turn)
    (case a_seat_on_turn => k_is); (case l_seat_on_turn => k_is); (case c_seat_on_turn => k_is); (case k_seat_on_turn => k_is)
    refine' (fun D_doubled => ?nx_doubled) (G.DefAt.mk' (x := "doubled") (st := G.s_doubled) KX N ?a_doubled ?l_doubled ?c_doubled ?k_doubled)
    (case a_doubled => k_is); (case l_doubled => k_is); (case c_doubled => k_is); (case k_doubled => k_is)
    refine' (fun D_may_stand => ?nx_may_stand) (G.DefAt.mk' (x := "may_stand") (st := G.s_may_stand) KX N ?a_may_stand ?l_may_stand ?c_may_stand ?k_may_stand)
    (case a_may_stand => k_is); (case l_may_stand => k_is); (case c_may_stand => k_is); (case k_may_stand => k_is)
    refine' (fun D_is_legal => ?nx_is_legal) (G.DefAt.mk' (x := "is_legal") (st := G.s_is_legal) KX N ?a_is_legal ?l_is_legal ?c_is_legal ?k_is_legal)
    (case a_is_legal => k_is); (case l_is_legal => k_is); (case c_is_legal => k_is); (case k_is_legal => k_is)
    refine' (fun D_first_to_name => ?nx_first_to_name) (G.DefAt.mk' (x := "first_to_name") (st := G.s_first_to_name) KX N ?a_first_to_name ?l_first_to_name ?c_first_to_name ?k_first_to_name)
    (case a_first_to_name => k_is); (case l_first_to_name => k_is); (case c_first_to_name => k_is); (case k_first_to_name => k_is)
    refine' (fun D_turn_of => ?nx_turn_of) (G.DefAt.mk' (x := "turn_of") (st := G.s_turn_of) KX N ?a_turn_of ?l_turn_of ?c_turn_of ?k_turn_of)
    (case a_turn_of => k_is); (case l_turn_of => k_is); (case c_turn_of => k_is); (case k_turn_of => k_is)
    refine' (fun D_must_pass => ?nx_must_pass) (G.DefAt.mk' (x := "must_pass") (st := G.s_must_pass) KX N ?a_must_pass ?l_must_pass ?c_must_pass ?k_must_pass)
    (case a_must_pass => k_is); (case l_must_pass => k_is); (case c_must_pass => k_is); (case k_must_pass => k_is)
    refine' (fun D_remember => ?nx_remember) (G.DefAt.mk' (x := "remember") (st := G.s_remember) KX N ?a_remember ?l_remember ?c_remember ?k_remember)
    (case a_remember => k_is); (case l_remember => k_is); (case c_remember => k_is); (case k_remember => k_is)
    refine' (fun D_go_back => ?nx_go_back) (G.DefAt.mk' (x := "go_back") (st := G.s_go_back) KX N ?a_go_back ?l_go_back ?c_go_back ?k_go_back)
    (case a_go_back => k_is); (case l_go_back => k_is); (case c_go_back => k_is); (case k_go_back => k_is)
    refine' (fun D_let_stand => ?nx_let_stand) (G.DefAt.mk' (x := "let_stand") (st := G.s_let_stand) KX N ?a_let_stand ?l_let_stand ?c_let_stand ?k_let_stand)
    (case a_let_stand => k_is); (case l_let_stand => k_is); (case c_let_stand => k_is); (case k_let_stand => k_is)
    refine' (fun D_bar_partner => ?nx_bar_partner) (G.DefAt.mk' (x := "bar_partner") (st := G.s_bar_partner) KX N ?a_bar_partner ?l_bar_partner ?c_bar_partner ?k_bar_partner)
    (case a_bar_partner => k_is); (case l_bar_partner => k_is); (case c_bar_partner => k_is); (case k_bar_partner => k_is)
    refine' (fun D_is_needed_to_mend => ?nx_is_needed_to_mend) (G.DefAt.mk' (x := "is_needed_to_mend") (st := G.s_is_needed_to_mend) KX N ?a_is_needed_to_mend ?l_is_needed_to_mend ?c_is_needed_to_mend ?k_is_needed_to_mend)
    (case a_is_needed_to_mend => k_is); (case l_is_needed_to_mend => k_is); (case c_is_needed_to_mend => k_is); (case k_is_needed_to_mend => k_is)
    refine' (fun D_make_call => ?nx_make_call) (G.DefAt.mk' (x := "make_call") (st := G.s_make_call) KX N ?a_make_call ?l_make_call ?c_make_call ?k_make_call)
    (case a_make_call => k_is); (case l_make_call => k_is); (case c_make_call => k_is); (case k_make_call => k_is)
    refine' (fun D_mended_bid => ?nx_mended_bid) (G.DefAt.mk' (x := "mended_bid") (st := G.s_mended_bid) KX N ?a_mended_bid ?l_mended_bid ?c_mended_bid ?k_mended_bid)
    (case a_mended_bid => k_is); (case l_mended_bid => k_is); (case c_mended_bid => k_is); (case k_mended_bid => k_is)
    refine' (fun D_decide_waiting => ?nx_decide_waiting) (G.DefAt.mk' (x := "decide_waiting") (st := G.s_decide_waiting) KX N ?a_decide_waiting ?l_decide_waiting ?c_decide_waiting ?k_decide_waiting)
    (case a_decide_waiting => k_is); (case l_decide_waiting => k_is); (case c_decide_waiting => k_is); (case k_decide_waiting => k_is)
    refine' (fun D_text_of_call => ?nx_text_of_call) (G.DefAt.mk' (x := "text_of_call") (st := G.s_text_of_call) KX N ?a_text_of_call ?l_text_of_call ?c_text_of_call ?k_text_of_call)
    (case a_text_of_call => k_is); (case l_text_of_call => k_is); (case c_text_of_call => k_is); (case k_text_of_call => k_is)
    refine' (fun D_bytes_of => ?nx_bytes_of) (G.DefAt.mk' (x := "bytes_of") (st := G.s_bytes_of) KX N ?a_bytes_of ?l_bytes_of ?c_bytes_of ?k_bytes_of)
    (case a_bytes_of => k_is); (case l_bytes_of => k_is); (case c_bytes_of => k_is); (case k_bytes_of => k_is)
    refine' (fun D_bytes_of_auction => ?nx_bytes_of_auction) (G.DefAt.mk' (x := "bytes_of_auction") (st := G.s_bytes_of_auction) KX N ?a_bytes_of_auction ?l_bytes_of_auction ?c_bytes_of_auction ?k_bytes_of_auction)
    (case a_bytes_of_auction => k_is); (case l_bytes_of_auction => k_is); (case c_bytes_of_auction => k_is); (case k_bytes_of_auction => k_is)
    refine' (fun D_words_of => ?nx_words_of) (G.DefAt.mk' (x := "words_of") (st := G.s_words_of) KX N ?a_words_of ?l_words_of ?c_words_of ?k_words_of)
    (case a_words_of => k_is); (case l_words_of => k_is); (case c_words_of => k_is); (case k_words_of => k_is)
    refine' (fun D_call_of_word => ?nx_call_of_word) (G.DefAt.mk' (x := "call_of_word") (st := G.s_call_of_word) KX N ?a_call_of_word ?l_call_of_word ?c_call_of_word ?k_call_of_word)
    (case a_call_of_word => k_is); (case l_call_of_word => k_is); (case c_call_of_word => k_is); (case k_call_of_word => k_is)
    refine' (fun D_value_of_numeral => ?nx_value_of_numeral) (G.DefAt.mk' (x := "value_of_numeral") (st := G.s_value_of_numeral) KX N ?a_value_of_numeral ?l_value_of_numeral ?c_value_of_numeral ?k_value_of_numeral)
    (case a_value_of_numeral => k_is); (case l_value_of_numeral => k_is); (case c_value_of_numeral => k_is); (case k_value_of_numeral => k_is)
    refine' (fun D_are_bytes => ?nx_are_bytes) (G.DefAt.mk' (x := "are_bytes") (st := G.s_are_bytes) KX N ?a_are_bytes ?l_are_bytes ?c_are_bytes ?k_are_bytes)
    (case a_are_bytes => k_is); (case l_are_bytes => k_is); (case c_are_bytes => k_is); (case k_are_bytes => k_is)
    refine' (fun D_deal => ?nx_deal) (G.DefAt.mk' (x := "deal") (st := G.s_deal) KX N ?a_deal ?l_deal ?c_deal ?k_deal)
    (case a_deal => k_is); (case l_deal => k_is); (case c_deal => k_is); (case k_deal => k_is)
    refine' (fun D_board => ?nx_board) (G.DefAt.mk' (x := "board") (st := G.s_board) KX N ?a_board ?l_board ?c_board ?k_board)
    (case a_board => k_is); (case l_board => k_is); (case c_board => k_is); (case k_board => k_is)
    refine' (fun D_call_at_table => ?nx_call_at_table) (G.DefAt.mk' (x := "call_at_table") (st := G.s_call_at_table) KX N ?a_call_at_table ?l_call_at_table ?c_call_at_table ?k_call_at_table)
    (case a_call_at_table => k_is); (case l_call_at_table => k_is); (case c_call_at_table => k_is); (case k_call_at_table => k_is)
    refine' (fun D_decide => ?nx_decide) (G.DefAt.mk' (x := "decide") (st := G.s_decide) KX N ?a_decide ?l_decide ?c_decide ?k_decide)
    (case a_decide => k_is); (case l_decide => k_is); (case c_decide => k_is); (case k_decide => k_is)
    refine' (fun D_undo => ?nx_undo) (G.DefAt.mk' (x := "undo") (st := G.s_undo) KX N ?a_undo ?l_undo ?c_undo ?k_undo)
    (case a_undo => k_is); (case l_undo => k_is); (case c_undo => k_is); (case k_undo => k_is)
    refine' (fun D_looked_at => ?nx_looked_at) (G.DefAt.mk' (x := "looked_at") (st := G.s_looked_at) KX N ?a_looked_at ?l_looked_at ?c_looked_at ?k_looked_at)
    (case a_looked_at => k_is); (case l_looked_at => k_is); (case c_looked_at => k_is); (case k_looked_at => k_is)
    refine' (fun D_look => ?nx_look) (G.DefAt.mk' (x := "look") (st := G.s_look) KX N ?a_look ?l_look ?c_look ?k_look)
    (case a_look => k_is); (case l_look => k_is); (case c_look => k_is); (case k_look => k_is)
    refine' (fun D_read_auction => ?nx_read_auction) (G.DefAt.mk' (x := "read_auction") (st := G.s_read_auction) KX N ?a_read_auction ?l_read_auction ?c_read_auction ?k_read_auction)
    (case a_read_auction => k_is); (case l_read_auction => k_is); (case c_read_auction => k_is); (case k_read_auction => k_is)
    refine' (fun D_first_position => ?nx_first_position) (G.DefAt.mk' (x := "first_position") (st := G.s_first_position) KX N ?a_first_position ?l_first_position ?c_first_position ?k_first_position)
    (case a_first_position => k_is); (case l_first_position => k_is); (case c_first_position => k_is); (case k_first_position => k_is)
    refine' (fun D_position_of => ?nx_position_of) (G.DefAt.mk' (x := "position_of") (st := G.s_position_of) KX N ?a_position_of ?l_position_of ?c_position_of ?k_position_of)
    (case a_position_of => k_is); (case l_position_of => k_is); (case c_position_of => k_is); (case k_position_of => k_is)
    refine' (fun D_is_at_end => ?nx_is_at_end) (G.DefAt.mk' (x := "is_at_end") (st := G.s_is_at_end) KX N ?a_is_at_end ?l_is_at_end ?c_is_at_end ?k_is_at_end)
    (case a_is_at_end => k_is); (case l_is_at_end => k_is); (case c_is_at_end => k_is); (case k_is_at_end => k_is)
    refine' (fun D_legal_calls => ?nx_legal_calls) (G.DefAt.mk' (x := "legal_calls") (st := G.s_legal_calls) KX N ?a_legal_calls ?l_legal_calls ?c_legal_calls ?k_legal_calls)
    (case a_legal_calls => k_is); (case l_legal_calls => k_is); (case c_legal_calls => k_is); (case k_legal_calls => k_is)
    refine' (fun D_position_behind => ?nx_position_behind) (G.DefAt.mk' (x := "position_behind") (st := G.s_position_behind) KX N ?a_position_behind ?l_position_behind ?c_position_behind ?k_position_behind)
    (case a_position_behind => k_is); (case l_position_behind => k_is); (case c_position_behind => k_is); (case k_position_behind => k_is)
    refine' (fun D_ways_with_bid => ?nx_ways_with_bid) (G.DefAt.mk' (x := "ways_with_bid") (st := G.s_ways_with_bid) KX N ?a_ways_with_bid ?l_ways_with_bid ?c_ways_with_bid ?k_ways_with_bid)
    (case a_ways_with_bid => k_is); (case l_ways_with_bid => k_is); (case c_ways_with_bid => k_is); (case k_ways_with_bid => k_is)
    refine' (fun D_ways_from_bids => ?nx_ways_from_bids) (G.DefAt.mk' (x := "ways_from_bids") (st := G.s_ways_from_bids) KX N ?a_ways_from_bids ?l_ways_from_bids ?c_ways_from_bids ?k_ways_from_bids)
    (case a_ways_from_bids => k_is); (case l_ways_from_bids => k_is); (case c_ways_from_bids => k_is); (case k_ways_from_bids => k_is)
    refine' (fun D_ways_of => ?nx_ways_of) (G.DefAt.mk' (x := "ways_of") (st := G.s_ways_of) KX N ?a_ways_of ?l_ways_of ?c_ways_of ?k_ways_of)
    (case a_ways_of => k_is); (case l_ways_of => k_is); (case c_ways_of => k_is); (case k_ways_of => k_is)
    refine' (fun D_longest_with_bid => ?nx_longest_with_bid) (G.DefAt.mk' (x := "longest_with_bid") (st := G.s_longest_with_bid) KX N ?a_longest_with_bid ?l_longest_with_bid ?c_longest_with_bid ?k_longest_with_bid)
    (case a_longest_with_bid => k_is); (case l_longest_with_bid => k_is); (case c_longest_with_bid => k_is); (case k_longest_with_bid => k_is)
    refine' (fun D_longest_from_bid => ?nx_longest_from_bid) (G.DefAt.mk' (x := "longest_from_bid") (st := G.s_longest_from_bid) KX N ?a_longest_from_bid ?l_longest_from_bid ?c_longest_from_bid ?k_longest_from_bid)
    (case a_longest_from_bid => k_is); (case l_longest_from_bid => k_is); (case c_longest_from_bid => k_is); (case k_longest_from_bid => k_is)
    refine' (fun D_longest_of => ?nx_longest_of) (G.DefAt.mk' (x := "longest_of") (st := G.s_longest_of) KX N ?a_longest_of ?l_longest_of ?c_longest_of ?k_longest_of)
    (case a_longest_of => k_is); (case l_longest_of => k_is); (case c_longest_of => k_is); (case k_longest_of => k_is)
    refine' (fun D_number_of => ?nx_number_of) (G.DefAt.mk' (x := "number_of") (st := G.s_number_of) KX N ?a_number_of ?l_number_of ?c_number_of ?k_number_of)
    (case a_number_of => k_is); (case l_number_of => k_is); (case c_number_of => k_is); (case k_number_of => k_is)
    refine' (fun D_auction_with_number => ?nx_auction_with_number) (G.DefAt.mk' (x := "auction_with_number") (st := G.s_auction_with_number) KX N ?a_auction_with_number ?l_auction_with_number ?c_auction_with_number ?k_auction_with_number)
    (case a_auction_with_number => k_is); (case l_auction_with_number => k_is); (case c_auction_with_number => k_is); (case k_auction_with_number => k_is)
    refine' (fun D_call_with => ?nx_call_with) (G.DefAt.mk' (x := "call_with") (st := G.s_call_with) KX N ?a_call_with ?l_call_with ?c_call_with ?k_call_with)
    (case a_call_with => k_is); (case l_call_with => k_is); (case c_call_with => k_is); (case k_call_with => k_is)
    refine' (fun D_show_table => ?nx_show_table) (G.DefAt.mk' (x := "show_table") (st := G.s_show_table) KX N ?a_show_table ?l_show_table ?c_show_table ?k_show_table)
    (case a_show_table => k_is); (case l_show_table => k_is); (case c_show_table => k_is); (case k_show_table => k_is)
    refine' (fun D_bound_number => ?nx_bound_number) (G.DefAt.mk' (x := "bound_number") (st := G.s_bound_number) KX N ?a_bound_number ?l_bound_number ?c_bound_number ?k_bound_number)
    (case a_bound_number => k_is); (case l_bound_number => k_is); (case c_bound_number => k_is); (case k_bound_number => k_is)
    refine' (fun D_legals => ?nx_legals) (G.DefAt.mk' (x := "legals") (st := G.s_legals) KX N ?a_legals ?l_legals ?c_legals ?k_legals)
    (case a_legals => k_is); (case l_legals => k_is); (case c_legals => k_is); (case k_legals => k_is)
    refine' (fun D_contract => ?nx_contract) (G.DefAt.mk' (x := "contract") (st := G.s_contract) KX N ?a_contract ?l_contract ?c_contract ?k_contract)
    (case a_contract => k_is); (case l_contract => k_is); (case c_contract => k_is); (case k_contract => k_is)
    refine' (fun D_ways => ?nx_ways) (G.DefAt.mk' (x := "ways") (st := G.s_ways) KX N ?a_ways ?l_ways ?c_ways ?k_ways)
    (case a_ways => k_is); (case l_ways => k_is); (case c_ways => k_is); (case k_ways => k_is)
    refine' (fun D_longest => ?nx_longest) (G.DefAt.mk' (x := "longest") (st := G.s_longest) KX N ?a_longest ?l_longest ?c_longest ?k_longest)
    (case a_longest => k_is); (case l_longest => k_is); (case c_longest => k_is); (case k_longest => k_is)
    refine' (fun D_number => ?nx_number) (G.DefAt.mk' (x := "number") (st := G.s_number) KX N ?a_number ?l_number ?c_number ?k_number)
    (case a_number => k_is); (case l_number => k_is); (case c_number => k_is); (case k_number => k_is)
    refine' (fun D_nth => ?nx_nth) (G.DefAt.mk' (x := "nth") (st := G.s_nth) KX N ?a_nth ?l_nth ?c_nth ?k_nth)
    (case a_nth => k_is); (case l_nth => k_is); (case c_nth => k_is); (case k_nth => k_is)
    refine' (fun D_auction_text => ?nx_auction_text) (G.DefAt.mk' (x := "auction_text") (st := G.s_auction_text) KX N ?a_auction_text ?l_auction_text ?c_auction_text ?k_auction_text)
    (case a_auction_text => k_is); (case l_auction_text => k_is); (case c_auction_text => k_is); (case k_auction_text => k_is)
    refine' (fun D_calls_made => ?nx_calls_made) (G.DefAt.mk' (x := "calls_made") (st := G.s_calls_made) KX N ?a_calls_made ?l_calls_made ?c_calls_made ?k_calls_made)
    (case a_calls_made => k_is); (case l_calls_made => k_is); (case c_calls_made => k_is); (case k_calls_made => k_is)
    refine' (fun D_named => ?nx_named) (G.DefAt.mk' (x := "named") (st := G.s_named) KX N ?a_named ?l_named ?c_named ?k_named)
    (case a_named => k_is); (case l_named => k_is); (case c_named => k_is); (case k_named => k_is)
    refine' (fun D_answers => ?nx_answers) (G.DefAt.mk' (x := "answers") (st := G.s_answers) KX N ?a_answers ?l_answers ?c_answers ?k_answers)
    (case a_answers => k_is); (case l_answers => k_is); (case c_answers => k_is); (case k_answers => k_is)
    refine' (fun D_answer_of => ?nx_answer_of) (G.DefAt.mk' (x := "answer_of") (st := G.s_answer_of) KX N ?a_answer_of ?l_answer_of ?c_answer_of ?k_answer_of)
    (case a_answer_of => k_is); (case l_answer_of => k_is); (case c_answer_of => k_is); (case k_answer_of => k_is)
    refine' (fun D_asked_answer => ?nx_asked_answer) (G.DefAt.mk' (x := "asked_answer") (st := G.s_asked_answer) KX N ?a_asked_answer ?l_asked_answer ?c_asked_answer ?k_asked_answer)
    (case a_asked_answer => k_is); (case l_asked_answer => k_is); (case c_asked_answer => k_is); (case k_asked_answer => k_is)
    refine' (fun E_Table => ?nx_Table) (G.initCls (x := "Table") (st := G.s_Table_init) (qual := "Table.__init__") (fs := ["dealer", "vulnerability", "made", "barred", "once", "waiting", "mending", "past"]) KX N ?aC_Table ?mk_Table ?a_Table ?i_Table ?kc_Table ?l_Table ?c_Table ?k_Table ⟨?pg_Table, ?hd_Table, ?po_Table, ?sa_Table⟩ ?nos_Table)
    (case aC_Table => k_is); (case mk_Table => k_is); (case a_Table => k_is); (case i_Table => k_is); (case kc_Table => k_is); (case l_Table => k_is); (case c_Table => k_is); (case k_Table => k_is); (case pg_Table => k_is); (case hd_Table => k_is); (case po_Table => k_is); (case sa_Table => k_is)
    case nos_Table =>
      intro f hf
      simp only [List.mem_cons, List.not_mem_nil, or_false] at hf
      rcases hf with rfl | rfl | rfl | rfl | rfl | rfl | rfl | rfl <;> (show PySem.W.findIn _ _ _ = some none; k_is)
    obtain ⟨CTable, I_Table, Z_Table⟩ := E_Table
    refine' (fun E_Session => ?nx_Session) (G.initCls (x := "Session") (st := G.s_Session_init) (qual := "Session.__init__") (fs := ["table"]) KX N ?aC_Session ?mk_Session ?a_Session ?i_Session ?kc_Session ?l_Session ?c_Session ?k_Session ⟨?pg_Session, ?hd_Session, ?po_Session, ?sa_Session⟩ ?nos_Session)
    (case aC_Session => k_is); (case mk_Session => k_is); (case a_Session => k_is); (case i_Session => k_is); (case kc_Session => k_is); (case l_Session => k_is); (case c_Session => k_is); (case k_Session => k_is); (case pg_Session => k_is); (case hd_Session => k_is); (case po_Session => k_is); (case sa_Session => k_is)
    case nos_Session =>
      intro f hf
      simp only [List.mem_cons, List.not_mem_nil, or_false] at hf
      subst hf
      show PySem.W.findIn _ _ _ = some none
      k_is
    obtain ⟨CSession, I_Session, Z_Session⟩ := E_Session
    refine' (fun E_Position => ?nx_Position) (G.initCls (x := "Position") (st := G.s_Position_init) (qual := "Position.__init__") (fs := ["bid", "doubled_number", "passes", "by_other"]) KX N ?aC_Position ?mk_Position ?a_Position ?i_Position ?kc_Position ?l_Position ?c_Position ?k_Position ⟨?pg_Position, ?hd_Position, ?po_Position, ?sa_Position⟩ ?nos_Position)
    (case aC_Position => k_is); (case mk_Position => k_is); (case a_Position => k_is); (case i_Position => k_is); (case kc_Position => k_is); (case l_Position => k_is); (case c_Position => k_is); (case k_Position => k_is); (case pg_Position => k_is); (case hd_Position => k_is); (case po_Position => k_is); (case sa_Position => k_is)
    case nos_Position =>
      intro f hf
      simp only [List.mem_cons, List.not_mem_nil, or_false] at hf
      rcases hf with rfl | rfl | rfl | rfl <;> (show PySem.W.findIn _ _ _ = some none; k_is)
    obtain ⟨CPosition, I_Position, Z_Position⟩ := E_Position
    refine' (fun E_SH => ?nx_SH) (G.shapesOf (xs := G.shL) KX N ?a_SH (G.ShapesAt.mk' (as := [507, 508, 509, 510, 511, 512, 513, 514, 515, 516, 517, 518, 519, 520, 521, 522, 523]) (G.TupK.mk' ?l_SH ?z_SH ?v_SH) ⟨?t_SH0, ?t_SH1, ?t_SH2, ?t_SH3, ?t_SH4, ?t_SH5, ?t_SH6, ?t_SH7, ?t_SH8, ?t_SH9, ?t_SH10, ?t_SH11, ?t_SH12, ?t_SH13, ?t_SH14, ?t_SH15, ?t_SH16, trivial⟩))
    (case a_SH => k_is); (case l_SH => k_is); (case z_SH => decide); (case v_SH => exact .cons rfl (.cons rfl (.cons rfl (.cons rfl (.cons rfl (.cons rfl (.cons rfl (.cons rfl (.cons rfl (.cons rfl (.cons rfl (.cons rfl (.cons rfl (.cons rfl (.cons rfl (.cons rfl (.cons rfl (.nil))))))))))))))))))
    case t_SH0 =>
      refine' G.TupK.mk' ?l_S0 ?z_S0 ?v_S0
      (case l_S0 => k_is); (case z_S0 => decide); (case v_S0 => exact .cons ⟨_, rfl⟩ (.cons ⟨_, rfl⟩ .nil))
    case t_SH1 =>
      refine' G.TupK.mk' ?l_S1 ?z_S1 ?v_S1
      (case l_S1 => k_is); (case z_S1 => decide); (case v_S1 => exact .cons ⟨_, rfl⟩ (.cons ⟨_, rfl⟩ .nil))
    case t_SH2 =>
      refine' G.TupK.mk' ?l_S2 ?z_S2 ?v_S2
      (case l_S2 => k_is); (case z_S2 => decide); (case v_S2 => exact .cons ⟨_, rfl⟩ (.cons ⟨_, rfl⟩ .nil))
    case t_SH3 =>
      refine' G.TupK.mk' ?l_S3 ?z_S3 ?v_S3
      (case l_S3 => k_is); (case z_S3 => decide); (case v_S3 => exact .cons ⟨_, rfl⟩ (.cons ⟨_, rfl⟩ .nil))
    case t_SH4 =>
      refine' G.TupK.mk' ?l_S4 ?z_S4 ?v_S4
      (case l_S4 => k_is); (case z_S4 => decide); (case v_S4 => exact .cons ⟨_, rfl⟩ (.cons ⟨_, rfl⟩ .nil))
    case t_SH5 =>
      refine' G.TupK.mk' ?l_S5 ?z_S5 ?v_S5
      (case l_S5 => k_is); (case z_S5 => decide); (case v_S5 => exact .cons ⟨_, rfl⟩ (.cons ⟨_, rfl⟩ .nil))
    case t_SH6 =>
      refine' G.TupK.mk' ?l_S6 ?z_S6 ?v_S6
      (case l_S6 => k_is); (case z_S6 => decide); (case v_S6 => exact .cons ⟨_, rfl⟩ (.cons ⟨_, rfl⟩ .nil))
    case t_SH7 =>
      refine' G.TupK.mk' ?l_S7 ?z_S7 ?v_S7
      (case l_S7 => k_is); (case z_S7 => decide); (case v_S7 => exact .cons ⟨_, rfl⟩ (.cons ⟨_, rfl⟩ .nil))
    case t_SH8 =>
      refine' G.TupK.mk' ?l_S8 ?z_S8 ?v_S8
      (case l_S8 => k_is); (case z_S8 => decide); (case v_S8 => exact .cons ⟨_, rfl⟩ (.cons ⟨_, rfl⟩ .nil))
    case t_SH9 =>
      refine' G.TupK.mk' ?l_S9 ?z_S9 ?v_S9
      (case l_S9 => k_is); (case z_S9 => decide); (case v_S9 => exact .cons ⟨_, rfl⟩ (.cons ⟨_, rfl⟩ .nil))
    case t_SH10 =>
      refine' G.TupK.mk' ?l_S10 ?z_S10 ?v_S10
      (case l_S10 => k_is); (case z_S10 => decide); (case v_S10 => exact .cons ⟨_, rfl⟩ (.cons ⟨_, rfl⟩ .nil))
    case t_SH11 =>
      refine' G.TupK.mk' ?l_S11 ?z_S11 ?v_S11
      (case l_S11 => k_is); (case z_S11 => decide); (case v_S11 => exact .cons ⟨_, rfl⟩ (.cons ⟨_, rfl⟩ .nil))
    case t_SH12 =>
      refine' G.TupK.mk' ?l_S12 ?z_S12 ?v_S12
      (case l_S12 => k_is); (case z_S12 => decide); (case v_S12 => exact .cons ⟨_, rfl⟩ (.cons ⟨_, rfl⟩ .nil))
    case t_SH13 =>
      refine' G.TupK.mk' ?l_S13 ?z_S13 ?v_S13
      (case l_S13 => k_is); (case z_S13 => decide); (case v_S13 => exact .cons ⟨_, rfl⟩ (.cons ⟨_, rfl⟩ .nil))
    case t_SH14 =>
      refine' G.TupK.mk' ?l_S14 ?z_S14 ?v_S14
      (case l_S14 => k_is); (case z_S14 => decide); (case v_S14 => exact .cons ⟨_, rfl⟩ (.cons ⟨_, rfl⟩ .nil))
    case t_SH15 =>
      refine' G.TupK.mk' ?l_S15 ?z_S15 ?v_S15
      (case l_S15 => k_is); (case z_S15 => decide); (case v_S15 => exact .cons ⟨_, rfl⟩ (.cons ⟨_, rfl⟩ .nil))
    case t_SH16 =>
      refine' G.TupK.mk' ?l_S16 ?z_S16 ?v_S16
      (case l_S16 => k_is); (case z_S16 => decide); (case v_S16 => exact .cons ⟨_, rfl⟩ (.cons ⟨_, rfl⟩ .nil))
    obtain ⟨aS, hS, hSh⟩ := E_SH
    exact G.finAll Z_Table Z_Session Z_Position i_BIDS i_BID_WITHDRAWN i_BLANK i_CALLS i_CALL_WITHDRAWN i_DOUBLE i_FEWER_DONE i_FIRST_BID i_IS_OVER s_LETTERS i_MOST_BOARD i_MOST_DONE i_MOST_UNDONE i_MUST_MEND i_MUST_PASS i_NOTHING_WAITS i_NOTHING_WRONG i_NOT_LEGAL i_NOT_OVER i_NOT_TURN_BY_TURN i_NO_AUCTION i_NO_BID i_NO_CALL i_NO_SUCH_AUCTION i_OUT_OF_RANGE i_OUT_OF_TURN i_OVER_BEFORE i_PASS i_PASS_WITHDRAWN i_REDOUBLE i_STANDS i_STRAINS i_TOO_LOW i_TOO_MANY_DONE i_WAITS i_WITHDRAWN_AT_ONCE i_WRONG_TEXT b_all b_enumerate b_len b_list b_max b_ord b_range b_reversed b_str hS hSh hmg D_side_of D_partner_of D_last_bid D_side_of_last_bid D_last_word D_passes_at_end D_passes_to_end D_is_over D_seat_on_turn D_doubled D_may_stand D_is_legal D_first_to_name I_Table D_turn_of D_must_pass D_remember D_go_back D_let_stand D_bar_partner D_is_needed_to_mend D_make_call D_mended_bid D_decide_waiting D_text_of_call D_bytes_of D_bytes_of_auction D_words_of D_call_of_word D_value_of_numeral I_Session D_are_bytes D_deal D_board D_call_at_table D_decide D_undo D_looked_at D_look D_read_auction I_Position D_first_position D_position_of D_is_at_end D_legal_calls D_position_behind D_ways_with_bid D_ways_from_bids D_ways_of D_longest_with_bid D_longest_from_bid D_longest_of D_number_of D_auction_with_number D_call_with D_show_table D_bound_number D_legals D_contract D_ways D_longest D_number D_nth D_auction_text D_calls_made D_named D_answers D_answer_of D_asked_answer
  case S =>
    intro K H xs a hO hwi hask hx
    cases hx with
    | cons h1 h2 =>
      cases h2
      cases h1 with
      | lst hs ha =>
        have e := L2.ints_dw a.1 _ ha
        subst e
        exact ⟨_, a.1, rfl, hs, hask, fun H' p hp => .lst (L2.SqL.of hp) (L2.dw_ints _)⟩

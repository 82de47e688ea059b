import PyProof.Rows.All
import HandS.ForMost
import HandS.Conv
import HandS.SetKeys
import HandS.Style
import HandS.Star
import HandS.Deep
import HandS.SortRule
import HandS.IsInst
import HandS.Rev
import HandS.Flow
import HandS.Finally
import HandS.Wide
import HandS.TupLen
import HandS.NoneIn
import HandS.Defaults
import HandS.Walk
import HandS.HeadHook2
import PySem.Challenge.RW_overpasses_k44_whole_answers_behind_edit
import Wide.FinOn
import HandS.Head0
import HandS.Head1
import HandS.Head2
import HandS.HeadEnd
import HandS.HeadHook1
set_option Elab.async false
set_option linter.all false
set_option maxRecDepth 100000
/-! ## M0 -/
/-! What each def computes, as plain functions over plain data. No library. -/
namespace T
def tget {κ α : Type} [DecidableEq κ] (t : List (κ × α)) (k : κ) : Option α := (t.find? fun p => decide (p.1 = k)).map (·.2)
def tput {κ α : Type} [DecidableEq κ] (t : List (κ × α)) (k : κ) (x : α) : List (κ × α) :=
  if (t.any fun p => decide (p.1 = k)) = true then t.map (fun p => if p.1 = k then (p.1, x) else p) else t ++ [(k, x)]
end T
namespace Ov
open T
abbrev PP := Nat × Nat
abbrev Link := Nat × Nat × Option Int × Option Int
abbrev Net := Nat × List Link
abbrev Row := Nat × Nat × Option Int × Option Int × Option Nat × Option Nat
abbrev Tab (α : Type) := List (PP × α)
abbrev Sum := Option Int × Option Nat

/-! ### dicts -/
section
variable {κ α : Type} [DecidableEq κ]
theorem tget_nil (k : κ) : tget ([] : List (κ × α)) k = none := rfl
theorem tget_cons (p : κ × α) (t : List (κ × α)) (k : κ) : tget (p :: t) k = if p.1 = k then some p.2 else tget t k := by
  unfold tget
  rw [List.find?_cons]
  by_cases h : p.1 = k
  · rw [if_pos h, show decide (p.1 = k) = true from decide_eq_true h]; rfl
  · rw [if_neg h, show decide (p.1 = k) = false from decide_eq_false h]
theorem tany (t : List (κ × α)) (k : κ) : (t.any fun p => decide (p.1 = k)) = (tget t k).isSome := by
  induction t with
  | nil => rfl
  | cons p t ih =>
    rw [List.any_cons, tget_cons, ih]
    by_cases h : p.1 = k
    · rw [if_pos h, decide_eq_true h]; rfl
    · rw [if_neg h, decide_eq_false h]; rfl
theorem tget_tput (t : List (κ × α)) (k j : κ) (x : α) : tget (tput t k x) j = if j = k then some x else tget t j := by
  unfold tput
  rw [tany]
  cases h : (tget t k).isSome with
  | true =>
    rw [if_pos rfl]
    induction t with
    | nil => cases h
    | cons p t ih =>
      rw [List.map_cons, tget_cons, tget_cons]
      by_cases hp : p.1 = k
      · rw [if_pos hp]
        by_cases hj : j = k
        · rw [if_pos (hp.trans hj.symm), if_pos hj]
        · rw [if_neg (show ¬ p.1 = j from fun z => hj (z.symm.trans hp)), if_neg hj, if_neg (show ¬ p.1 = j from fun z => hj (z.symm.trans hp))]
          clear ih h
          induction t with
          | nil => rfl
          | cons q t ih =>
            rw [List.map_cons, tget_cons, tget_cons]
            by_cases hq : q.1 = k
            · rw [if_pos hq, if_neg (show ¬ q.1 = j from fun z => hj (z.symm.trans hq)), if_neg (show ¬ q.1 = j from fun z => hj (z.symm.trans hq)), ih]
            · rw [if_neg hq]
              by_cases hqj : q.1 = j
              · rw [if_pos hqj, if_pos hqj]
              · rw [if_neg hqj, if_neg hqj, ih]
      · rw [if_neg hp]
        rw [tget_cons, if_neg hp] at h
        by_cases hj : p.1 = j
        · rw [if_pos hj, if_pos hj, if_neg (fun z => hp (hj.trans z))]
        · rw [if_neg hj, if_neg hj]; exact ih h
  | false =>
    rw [if_neg (by decide)]
    induction t with
    | nil =>
      rw [List.nil_append, tget_cons]
      by_cases hj : j = k
      · rw [if_pos hj.symm, if_pos hj]
      · rw [if_neg (fun z => hj z.symm), if_neg hj]
    | cons p t ih =>
      rw [tget_cons] at h
      have hp : ¬ p.1 = k := fun z => by rw [if_pos z] at h; cases h
      rw [if_neg hp] at h
      rw [List.cons_append, tget_cons, tget_cons]
      by_cases hj : p.1 = j
      · rw [if_pos hj, if_pos hj, if_neg (fun z => hp (hj.trans z))]
      · rw [if_neg hj, if_neg hj]; exact ih h
theorem tput_length (t : List (κ × α)) (k : κ) (x : α) : (tput t k x).length ≤ t.length + 1 := by
  unfold tput
  split
  · rw [List.length_map]; omega
  · rw [List.length_append]; simp
theorem tget_tput_same (t : List (κ × α)) (k : κ) (x : α) : tget (tput t k x) k = some x := by rw [tget_tput, if_pos rfl]
theorem tget_tput_ne (t : List (κ × α)) {k j : κ} (x : α) (h : j ≠ k) : tget (tput t k x) j = tget t j := by rw [tget_tput, if_neg h]
end
theorem take_foldl {α β : Type} {f : β → α → β} {s : β} {xs : List α} {i : Nat} {x : α} (h : xs[i]? = some x) : (xs.take (i + 1)).foldl f s = f ((xs.take i).foldl f s) x := by
  rw [List.take_add_one, h]
  simp

/-! ### nets, orders, pairs -/
def linkStep (t : Tab (Option Int)) (l : Link) : Tab (Option Int) := tput (tput t (l.1, l.2.1) l.2.2.1) (l.2.1, l.1) l.2.2.2
def linkPrices (ls : List Link) : Tab (Option Int) := ls.foldl linkStep []
def rankL (order : List Nat) : List Nat := (List.range order.length).map (order.idxOf ·)
/-- rows of neighbours -/
def kins (ks : List Nat) (b : Nat) : List Nat := if b ∈ ks then ks else ks ++ [b]
def ains (r : List (List Nat)) (a b : Nat) : List (List Nat) := r.set a (kins (r.getD a []) b)
def joinStep (r : List (List Nat)) (l : Link) : List (List Nat) := ains (ains r l.1 l.2.1) l.2.1 l.1
def joinedL (N : Net) : List (List Nat) := N.2.foldl joinStep (List.replicate N.1 [])
def drop1 (r : List (List Nat)) (a p : Nat) : List (List Nat) := r.set a ((r.getD a []).filter (· ≠ p))
def join2 (around : List Nat) (a : Nat) (r : List (List Nat)) : List (List Nat) := around.foldl (fun r b => if a ≠ b then ains r a b else r) r
def takeStep (around : List Nat) (p : Nat) (r : List (List Nat)) (a : Nat) : List (List Nat) := join2 around a (drop1 r a p)
def takeOut (r : List (List Nat)) (p : Nat) : List (List Nat) := ((r.getD p []).foldl (takeStep (r.getD p []) p) r).set p []
def leP (x y : PP) : Bool := decide (x.1 < y.1) || (decide (x.1 = y.1) && decide (x.2 ≤ y.2))
def sortP (xs : List PP) : List PP := xs.mergeSort leP
def upFound (rank : List Nat) (r : List (List Nat)) (p : Nat) : List Nat := (sortP ((r.getD p []).map fun o => (rank.getD o 0, o))).map (·.2)
def upStep (rank : List Nat) (s : List (List Nat) × List (List Nat)) (p : Nat) : List (List Nat) × List (List Nat) := (takeOut s.1 p, s.2.set p (upFound rank s.1 p))
def upperL (N : Net) (order : List Nat) : List (List Nat) := (order.foldl (upStep (rankL order)) (joinedL N, List.replicate N.1 [])).2
def pairsL (N : Net) (order : List Nat) : List PP := order.flatMap fun u => ((upperL N order).getD u []).map fun v => (u, v)

/-! ### filling -/
def dapp {κ : Type} [DecidableEq κ] (d : List (κ × List Nat)) (k : κ) (v : Nat) : List (κ × List Nat) := tput d k ((tget d k).getD [] ++ [v])
def upDict (found : List PP) : List (Nat × List Nat) := found.foldl (fun d p => dapp d p.1 p.2) []
def low0 (found : List PP) : Tab (List Nat) := found.foldl (fun t p => tput t p []) []
def triIn (rank : List Nat) (low f : Nat) (us : List Nat) (t : Tab (List Nat)) : Tab (List Nat) := us.foldl (fun t s => if rank.getD f 0 < rank.getD s 0 then dapp t (f, s) low else t) t
def triStep (rank : List Nat) (ud : List (Nat × List Nat)) (t : Tab (List Nat)) (low : Nat) : Tab (List Nat) := ((tget ud low).getD []).foldl (fun t f => triIn rank low f ((tget ud low).getD []) t) t
def trianglesL (found : List PP) (order : List Nat) : Tab (List Nat) := order.foldl (triStep (rankL order) (upDict found)) (low0 found)
def osum : Option Int → Option Int → Option Int
  | some a, some b => some (a + b)
  | _, _ => none
def olt (p : Int) : Option Int → Bool
  | none => true
  | some b => decide (p < b)
def gp (t : Tab (Option Int)) (x y : Nat) : Option Int := (tget t (x, y)).getD none
def gm (t : Tab (Option Nat)) (x y : Nat) : Option Nat := (tget t (x, y)).getD none
def bwStep (P : Tab (Option Int)) (x y : Nat) (s : Sum) (w : Nat) : Sum := match osum (gp P x w) (gp P w y) with
  | some p => if olt p s.1 then (some p, some w) else s
  | none => s
def bestWay (L P : Tab (Option Int)) (places : List Nat) (x y : Nat) : Sum := places.foldl (bwStep P x y) (gp L x y, none)
def rowOf (P : Tab (Option Int)) (M : Tab (Option Nat)) (p : PP) : Row := (p.1, p.2, gp P p.1 p.2, gp P p.2 p.1, gm M p.1 p.2, gm M p.2 p.1)
abbrev PM := Tab (Option Int) × Tab (Option Nat)
def fillWay (L : Tab (Option Int)) (places : List Nat) (s : PM) (w : PP) : PM := (tput s.1 w (bestWay L s.1 places w.1 w.2).1, tput s.2 w (bestWay L s.1 places w.1 w.2).2)
def fillStep (L : Tab (Option Int)) (lower : Tab (List Nat)) (s : PM) (p : PP) : PM := fillWay L ((tget lower p).getD []) (fillWay L ((tget lower p).getD []) s p) (p.2, p.1)
def fillPM (N : Net) (order : List Nat) : PM := (pairsL N order).foldl (fillStep (linkPrices N.2) (trianglesL (pairsL N order) order)) ([], [])
def fillL (N : Net) (order : List Nat) : List Row := (pairsL N order).map (rowOf (fillPM N order).1 (fillPM N order).2)
def wayOf : List Row → Nat → Nat → Option Sum
  | [], _, _ => none
  | r :: rs, x, y => if (r.1, r.2.1) = (x, y) then some (r.2.2.1, r.2.2.2.2.1) else if (r.2.1, r.1) = (x, y) then some (r.2.2.2.1, r.2.2.2.2.2) else wayOf rs x y
def roadOf (rows : List Row) : Nat → Nat → Nat → Option (List Nat)
  | 0, _, _ => none
  | k + 1, x, y => match wayOf rows x y with
    | some (some _, none) => some [x, y]
    | some (some _, some m) => match roadOf rows k x m, roadOf rows k m y with
      | some a, some b => some (a ++ b.drop 1)
      | _, _ => none
    | _ => none

/-! ### a session -/
abbrev Edit := Nat × Nat × Option Int
structure Ses where
  count : Nat
  order : List Nat
  links : Tab (Option Int)
  pairs : List PP
  lower : Tab (List Nat)
  prices : Tab (Option Int)
  middles : Tab (Option Nat)
  history : List (List Edit)
  looked : List PP
def putRow (s : PM) (r : Row) : PM := (tput (tput s.1 (r.1, r.2.1) r.2.2.1) (r.2.1, r.1) r.2.2.2.1, tput (tput s.2 (r.1, r.2.1) r.2.2.2.2.1) (r.2.1, r.1) r.2.2.2.2.2)
def rowsPM (rows : List Row) : PM := rows.foldl putRow ([], [])
def sesNew (N : Net) (order : List Nat) : Ses := ⟨N.1, order, linkPrices N.2, (fillL N order).map fun r => (r.1, r.2.1), trianglesL ((fillL N order).map fun r => (r.1, r.2.1)) order, (rowsPM (fillL N order)).1, (rowsPM (fillL N order)).2, [], []⟩
def setEdit (s : List Edit × Tab (Option Int)) (e : Edit) : List Edit × Tab (Option Int) := (s.1 ++ [(e.1, e.2.1, gp s.2 e.1 e.2.1)], tput s.2 (e.1, e.2.1) e.2.2)
def setEdits (L : Tab (Option Int)) (es : List Edit) : List Edit × Tab (Option Int) := es.foldl setEdit ([], L)
def isDue (way : PP) (places : List Nat) (edited : List PP) (changed : Tab Bool) : Bool := decide (way ∈ edited) || (places.map fun w => (tget changed (way.1, w)).isSome || (tget changed (w, way.2)).isSome).any id
abbrev Change := Nat × Nat × Option Int × Option Int
structure MendS where
  changed : Tab Bool
  changes : List Change
  looked : List PP
  prices : Tab (Option Int)
  middles : Tab (Option Nat)
def mendWay (L : Tab (Option Int)) (places : List Nat) (edited : List PP) (s : MendS) (way : PP) : MendS :=
  if isDue way places edited s.changed then
    let r := bestWay L s.prices places way.1 way.2
    { changed := if r.1 = gp s.prices way.1 way.2 then s.changed else tput s.changed way true
      changes := if r.1 = gp s.prices way.1 way.2 then s.changes else s.changes ++ [(way.1, way.2, gp s.prices way.1 way.2, r.1)]
      looked := s.looked ++ [way]
      prices := tput s.prices way r.1
      middles := tput s.middles way r.2 }
  else s
def mendStep (L : Tab (Option Int)) (lower : Tab (List Nat)) (edited : List PP) (s : MendS) (p : PP) : MendS := mendWay L ((tget lower p).getD []) edited (mendWay L ((tget lower p).getD []) edited s p) (p.2, p.1)
def mend (S : Ses) (edited : List PP) : MendS := S.pairs.foldl (mendStep S.links S.lower edited) ⟨[], [], [], S.prices, S.middles⟩
def Ses.mended (S : Ses) (edited : List PP) : Ses := { S with prices := (mend S edited).prices, middles := (mend S edited).middles, looked := (mend S edited).looked }
def editsAt (es : List Edit) : List PP := es.map fun e => (e.1, e.2.1)
def Ses.editAll (S : Ses) (es : List Edit) : Ses := Ses.mended { S with links := (setEdits S.links es).2, history := S.history ++ [(setEdits S.links es).1.reverse] } (editsAt es)
def Ses.editTold (S : Ses) (es : List Edit) : List Change := (mend { S with links := (setEdits S.links es).2, history := S.history ++ [(setEdits S.links es).1.reverse] } (editsAt es)).changes
def Ses.lastEdits (S : Ses) : List Edit := S.history.getLastD []
def Ses.undone (S : Ses) : Ses := Ses.mended { S with links := (setEdits S.links S.lastEdits).2, history := S.history.dropLast } (editsAt S.lastEdits)
def Ses.undoTold (S : Ses) : List Change := (mend { S with links := (setEdits S.links S.lastEdits).2, history := S.history.dropLast } (editsAt S.lastEdits)).changes
def Ses.netL (S : Ses) : Net := (S.count, ((sortP (S.links.map (·.1))).filter fun p => decide (p.1 < p.2)).map fun p => (p.1, p.2, gp S.links p.1 p.2, gp S.links p.2 p.1))
def Ses.fillingL (S : Ses) : List Row := S.pairs.map (rowOf S.prices S.middles)
def Ses.copyL (S : Ses) : Ses := { sesNew S.netL S.order with history := S.history, looked := S.looked }

/-! ### links read off a net -/
def keyAt (a b : Nat) : PP := (if b < a then b else a, if b > a then b else a)
def linkAt (ls : List Link) (a b : Nat) : Option Link := ls.find? fun l => decide ((l.1, l.2.1) = keyAt a b)
def dirPrice (a b : Nat) (l : Link) : Option Int := if a < b then l.2.2.1 else l.2.2.2
def priceOf (ls : List Link) (a b : Nat) : Option Int := match linkAt ls a b with
  | some l => dirPrice a b l
  | none => none
def roadSumL (ls : List Link) : List Nat → Option Int
  | [] => none
  | [_] => some 0
  | x :: y :: r => osum (priceOf ls x y) (roadSumL ls (y :: r))
def preSum (ls : List Link) (road : List Nat) : Nat → Int
  | 0 => 0
  | k + 1 => preSum ls road k + (priceOf ls (road.getD k 0) (road.getD (k + 1) 0)).getD 0

/-! ### answers -/
def openStep (ws : List (Nat × Nat × Int)) (l : Link) : List (Nat × Nat × Int) :=
  let w1 := match l.2.2.1 with
    | some p => ws ++ [(l.1, l.2.1, p)]
    | none => ws
  match l.2.2.2 with
    | some p => w1 ++ [(l.2.1, l.1, p)]
    | none => w1
def openWays (ls : List Link) : List (Nat × Nat × Int) := ls.foldl openStep []
def relax (s : List (Option Int)) (w : Nat × Nat × Int) : List (Option Int) := match s.getD w.1 none with
  | some d => if olt (d + w.2.2) (s.getD w.2.1 none) then s.set w.2.1 (some (d + w.2.2)) else s
  | none => s
def paperL (N : Net) (p : Nat) : List (Option Int) := (List.range N.1).foldl (fun s _ => (openWays N.2).foldl relax s) ((List.replicate N.1 none).set p (some 0))
def colOf (up : Bool) (r : Row) : Option Int := if up then r.2.2.1 else r.2.2.2.1
def sumStep (up : Bool) (s : List Sum) (r : Row) : List Sum := match osum (s.getD r.1 (none, none)).1 (colOf up r) with
  | some t => if olt t (s.getD r.2.1 (none, none)).1 then s.set r.2.1 (some t, some r.1) else s
  | none => s
def sumsOver (n : Nat) (rows : List Row) (p : Nat) (up : Bool) : List Sum := rows.foldl (sumStep up) ((List.replicate n (none, none)).set p (some 0, none))
def meetStep (ups downs : List Sum) (best : Sum) (p : Nat) : Sum := match osum (ups.getD p (none, none)).1 (downs.getD p (none, none)).1 with
  | some t => if olt t best.1 then (some t, some p) else best
  | none => best
def meetingL (order : List Nat) (ups downs : List Sum) : Sum := order.foldl (meetStep ups downs) (none, none)
def answerL (order : List Nat) (rows : List Row) (s t : Nat) : Sum := meetingL order (sumsOver order.length rows s true) (sumsOver order.length rows t false)
def answersL (order : List Nat) (rows : List Row) (s : Nat) (ts : List Nat) : List (Option Int) := ts.map fun t => (answerL order rows s t).1
/-- the steps back from x to s: at most k of them -/
def stepsTo (sums : List Sum) (s : Nat) : Nat → Nat → List Nat
  | 0, x => [x]
  | k + 1, x => if x = s then [x] else x :: stepsTo sums s k ((sums.getD x (none, none)).2.getD 0)
def chainRoad (rows : List Row) (n : Nat) : List Nat → List Nat
  | x :: y :: r => ((roadOf rows n x y).getD []).drop 1 ++ chainRoad rows n (y :: r)
  | _ => []
def answerChain (order : List Nat) (rows : List Row) (s t top : Nat) : List Nat := (stepsTo (sumsOver order.length rows s true) s order.length top).reverse ++ (stepsTo (sumsOver order.length rows t false) t order.length top).drop 1
def answerRoad (order : List Nat) (rows : List Row) (s t : Nat) : Option (List Nat) := match (answerL order rows s t).2 with
  | none => none
  | some top => some (s :: chainRoad rows order.length (answerChain order rows s t top))

/-! ### labels -/
abbrev Lab := List (Nat × Int)
def omin : List Int → Option Int
  | [] => none
  | x :: xs => some (xs.foldl min x)
def bestSum (one two : Lab) : Option Int := omin ((one.filter fun p => (tget two p.1).isSome).map fun p => p.2 + (tget two p.1).getD 0)
def grownStep (sums : List Sum) (others : List (Nat × Lab)) (place : Nat) (lab : Lab) (o : Nat) : Lab := match (sums.getD o (none, none)).1 with
  | none => lab
  | some p => if o ≠ place ∧ (match bestSum lab ((tget others o).getD []) with | none => false | some b => decide (b ≤ p)) = true then lab else tput lab o p
def grownL (order : List Nat) (sums : List Sum) (others : List (Nat × Lab)) (place : Nat) : Lab := order.reverse.foldl (grownStep sums others place) []
def labStep (order : List Nat) (rows : List Row) (s : List (Nat × Lab) × List (Nat × Lab)) (p : Nat) : List (Nat × Lab) × List (Nat × Lab) :=
  (tput s.1 p (grownL order (sumsOver order.length rows p true) s.2 p), tput s.2 p (grownL order (sumsOver order.length rows p false) s.1 p))
def labDicts (order : List Nat) (rows : List Row) : List (Nat × Lab) × List (Nat × Lab) := order.reverse.foldl (labStep order rows) ([], [])
def entriesL (lab : Lab) : Lab := ((lab.map (·.1)).mergeSort (fun a b => decide (a ≤ b))).map fun k => (k, (tget lab k).getD 0)
def labelsL (order : List Nat) (rows : List Row) : List Lab × List Lab := ((List.range order.length).map fun p => entriesL ((tget (labDicts order rows).1 p).getD []), (List.range order.length).map fun p => entriesL ((tget (labDicts order rows).2 p).getD []))
def toDict (l : Lab) : Lab := l.foldl (fun d p => tput d p.1 p.2) []
def labelAnswer (f g : Lab) : Option Int := bestSum (toDict f) (toDict g)

/-! ### true prices -/
def filledP (rows : List Row) : Tab (Option Int) := rows.foldl (fun t r => tput (tput t (r.1, r.2.1) r.2.2.1) (r.2.1, r.1) r.2.2.2.1) []
def leastL (xs : List (Option Int)) : Option Int := omin (xs.filterMap id)
def upperOf (rows : List Row) : List (Nat × List Nat) := rows.foldl (fun d r => dapp d r.1 r.2.1) []
def trueStep (F : Tab (Option Int)) (U : List (Nat × List Nat)) (t : Tab (Option Int)) (r : Row) : Tab (Option Int) :=
  let others := ((tget U r.1).getD []).filter (· ≠ r.2.1)
  tput (tput t (r.1, r.2.1) (leastL (gp F r.1 r.2.1 :: others.map fun p => osum (gp F r.1 p) (gp t p r.2.1)))) (r.2.1, r.1) (leastL (gp F r.2.1 r.1 :: others.map fun p => osum (gp t r.2.1 p) (gp F p r.1)))
def truePrices (rows : List Row) : Tab (Option Int) := rows.reverse.foldl (trueStep (filledP rows) (upperOf rows)) []
def isSlack (F Tr : Tab (Option Int)) (w : PP) : Bool := match gp F w.1 w.2 with
  | none => true
  | some f => match gp Tr w.1 w.2 with
    | none => false
    | some t => decide (t < f)
def slackWays (rows : List Row) : List PP := rows.flatMap fun r => [(r.1, r.2.1), (r.2.1, r.1)].filter (isSlack (filledP rows) (truePrices rows))
def thinRow (slack : List PP) (r : Row) : Row := (r.1, r.2.1, if (r.1, r.2.1) ∈ slack then none else r.2.2.1, if (r.2.1, r.1) ∈ slack then none else r.2.2.2.1, if (r.1, r.2.1) ∈ slack then none else r.2.2.2.2.1, if (r.2.1, r.1) ∈ slack then none else r.2.2.2.2.2)
def withoutSlack (rows : List Row) : List Row := rows.map (thinRow (slackWays rows))

/-! ### the law's own -/
def lpStep (t : Tab Int) (l : Link) : Tab Int :=
  let t1 := match l.2.2.1 with
    | some p => tput t (l.1, l.2.1) p
    | none => t
  match l.2.2.2 with
    | some p => tput t1 (l.2.1, l.1) p
    | none => t1
def lawPrices (ls : List Link) : Tab Int := ls.foldl lpStep []
def fwStep (m a : Nat) (t : Tab Int) (b : Nat) : Tab Int := match tget t (a, m), tget t (m, b) with
  | some x, some y => if olt (x + y) (tget t (a, b)) then tput t (a, b) (x + y) else t
  | _, _ => t
def fwRow (n m : Nat) (t : Tab Int) (a : Nat) : Tab Int := (List.range n).foldl (fwStep m a) t
def fwAll (n : Nat) (t : Tab Int) (m : Nat) : Tab Int := (List.range n).foldl (fwRow n m) t
def lawSums (N : Net) : Tab Int := (List.range N.1).foldl (fwAll N.1) ((List.range N.1).foldl (fun t a => tput t (a, a) 0) (lawPrices N.2))
def setLink (a b : Nat) (p : Option Int) (l : Link) : Link := (l.1, l.2.1, if (l.1, l.2.1) = (a, b) then p else l.2.2.1, if (l.1, l.2.1) = (b, a) then p else l.2.2.2)
def lawSet (N : Net) (a b : Nat) (p : Option Int) : Net := (N.1, N.2.map (setLink a b p))
def chStep (before after : List Row) (cs : List Change) (k : Nat) : List Change :=
  match before[k]?, after[k]? with
  | some x, some y =>
    let c1 := if x.2.2.1 = y.2.2.1 then cs else cs ++ [(y.1, y.2.1, x.2.2.1, y.2.2.1)]
    if x.2.2.2.1 = y.2.2.2.1 then c1 else c1 ++ [(y.2.1, y.1, x.2.2.2.1, y.2.2.2.1)]
  | _, _ => cs
def changesL (before after : List Row) : List Change := (List.range after.length).foldl (chStep before after) []
end Ov

/-! ## M1 -/
/-! Rows of neighbours: joining, taking out. No library. -/
namespace Ov
open T
/-- an order of n places -/
structure IsOrder (n : Nat) (order : List Nat) : Prop where
  len : order.length = n
  nd : order.Nodup
  lt : ∀ x ∈ order, x < n
  all : ∀ p, p < n → p ∈ order
theorem getElem?_take_lt {α : Type} {xs : List α} {i j : Nat} (h : j < i) : (xs.take i)[j]? = xs[j]? := by
  rw [List.getElem?_take, if_pos h]
theorem map_range_get {α : Type} (f : Nat → α) {n i : Nat} (h : i < n) : ((List.range n).map f)[i]? = some (f i) := by
  rw [List.getElem?_map, List.getElem?_range h]; rfl
theorem map_range_set {α : Type} (f g : Nat → α) {n i : Nat} (h : i < n) (hg : ∀ j, j < n → g j = if j = i then g i else f j) : ((List.range n).map f).set i (g i) = (List.range n).map g := by
  apply List.ext_getElem?
  intro j
  by_cases hj : j < n
  · by_cases e : i = j
    · subst e
      rw [List.getElem?_set_self (by simpa using h), map_range_get g hj]
    · rw [List.getElem?_set_ne e, map_range_get f hj, map_range_get g hj, hg j hj, if_neg (fun z => e z.symm)]
  · rw [List.getElem?_eq_none (by simp; omega), List.getElem?_eq_none (by simp; omega)]
/-- a net that the walks take: links below the count, no link from a place to itself -/
structure NetOk (N : Net) : Prop where
  n : N.1 ≤ 1000
  l : N.2.length ≤ 1000
  lt : ∀ l ∈ N.2, l.1 < N.1 ∧ l.2.1 < N.1
  ne : ∀ l ∈ N.2, l.1 ≠ l.2.1
/-- b stands in the row of a -/
def Adj (r : List (List Nat)) (a b : Nat) : Prop := b ∈ r.getD a []
theorem getD_set {α : Type} {r : List α} {a x : Nat} {v d : α} (h : a < r.length) : (r.set a v).getD x d = if x = a then v else r.getD x d := by
  rw [List.getD_eq_getElem?_getD, List.getD_eq_getElem?_getD]
  by_cases e : x = a
  · subst e; rw [List.getElem?_set_self h, if_pos rfl]; rfl
  · rw [List.getElem?_set_ne (fun z => e z.symm), if_neg e]
theorem mem_kins {ks : List Nat} {b y : Nat} : y ∈ kins ks b ↔ y ∈ ks ∨ y = b := by
  unfold kins
  split
  · rename_i h
    exact ⟨.inl, fun z => z.elim id fun e => e ▸ h⟩
  · simp
theorem ains_length (r : List (List Nat)) (a b : Nat) : (ains r a b).length = r.length := by unfold ains; rw [List.length_set]
theorem adj_ains {r : List (List Nat)} {a b x y : Nat} (h : a < r.length) : Adj (ains r a b) x y ↔ Adj r x y ∨ (x = a ∧ y = b) := by
  unfold Adj ains
  rw [getD_set h]
  by_cases e : x = a
  · subst e; rw [if_pos rfl, mem_kins]; simp
  · rw [if_neg e]; simp [e]
theorem drop1_length (r : List (List Nat)) (a p : Nat) : (drop1 r a p).length = r.length := by unfold drop1; rw [List.length_set]
theorem adj_drop1 {r : List (List Nat)} {a p x y : Nat} (h : a < r.length) : Adj (drop1 r a p) x y ↔ Adj r x y ∧ ¬ (x = a ∧ y = p) := by
  unfold Adj drop1
  rw [getD_set h]
  by_cases e : x = a
  · subst e; rw [if_pos rfl, List.mem_filter]; simp
  · rw [if_neg e]; simp [e]
/-- rows of n places: each row without repetition, its items below n -/
structure RowsOk (n : Nat) (r : List (List Nat)) : Prop where
  len : r.length = n
  nd : ∀ x, (r.getD x []).Nodup
  lt : ∀ x y, Adj r x y → y < n
theorem nodup_sub : ∀ {ks zs : List Nat}, ks.Nodup → (∀ k ∈ ks, k ∈ zs) → ks.length ≤ zs.length
  | [], _, _, _ => by simp
  | k :: ks, zs, h, hs => by
    have hk := hs k (by simp)
    have h2 := List.nodup_cons.mp h
    have := nodup_sub (zs := zs.erase k) h2.2 fun x m => (List.mem_erase_of_ne (show x ≠ k from fun e => h2.1 (by rw [← e]; exact m))).mpr (hs x (List.mem_cons_of_mem _ m))
    rw [List.length_erase_of_mem hk] at this
    have : 0 < zs.length := List.length_pos_of_mem hk
    rw [List.length_cons]; omega
theorem nodup_len {n : Nat} : ∀ {ks : List Nat}, ks.Nodup → (∀ k ∈ ks, k < n) → ks.length ≤ n := by
  intro ks h1 h2
  have : ks.length ≤ (List.range n).length := nodup_sub h1 fun x hx => List.mem_range.mpr (h2 x hx)
  simpa using this
theorem RowsOk.le {n : Nat} {r : List (List Nat)} (h : RowsOk n r) (x : Nat) : (r.getD x []).length ≤ n := nodup_len (h.nd x) fun k hk => h.lt x k hk
theorem getD_mem {α : Type} {r : List α} {ks d : α} (h : ks ∈ r) : ∃ x, x < r.length ∧ r.getD x d = ks := by
  obtain ⟨i, hi, e⟩ := List.getElem_of_mem h
  exact ⟨i, hi, by rw [List.getD_eq_getElem?_getD, List.getElem?_eq_getElem hi]; exact e⟩
theorem RowsOk.mem {n : Nat} {r : List (List Nat)} (h : RowsOk n r) : ∀ ks ∈ r, ks.length ≤ n := fun ks m => by
  obtain ⟨x, _, e⟩ := getD_mem (d := []) m
  rw [← e]; exact h.le x
theorem RowsOk.ains {n a b : Nat} {r : List (List Nat)} (h : RowsOk n r) (ha : a < n) (hb : b < n) : RowsOk n (ains r a b) where
  len := by rw [ains_length, h.len]
  nd := fun x => by
    unfold Ov.ains
    rw [getD_set (by rw [h.len]; exact ha)]
    split
    · unfold kins
      split
      · exact h.nd a
      · rename_i q
        exact List.nodup_append.mpr ⟨h.nd a, by simp, fun u hu v hv => by simp at hv; subst hv; exact fun z => q (z ▸ hu)⟩
    · exact h.nd x
  lt := fun x y z => by
    rcases (adj_ains (by rw [h.len]; exact ha)).mp z with z | ⟨_, rfl⟩
    · exact h.lt x y z
    · exact hb
theorem RowsOk.drop1 {n a p : Nat} {r : List (List Nat)} (h : RowsOk n r) (ha : a < n) : RowsOk n (drop1 r a p) where
  len := by rw [drop1_length, h.len]
  nd := fun x => by
    unfold Ov.drop1
    rw [getD_set (by rw [h.len]; exact ha)]
    split
    · exact (h.nd a).filter _
    · exact h.nd x
  lt := fun x y z => h.lt x y ((adj_drop1 (by rw [h.len]; exact ha)).mp z).1
theorem RowsOk.clear {n p : Nat} {r : List (List Nat)} (h : RowsOk n r) (hp : p < n) : RowsOk n (r.set p []) where
  len := by rw [List.length_set, h.len]
  nd := fun x => by
    rw [getD_set (by rw [h.len]; exact hp)]
    split
    · simp
    · exact h.nd x
  lt := fun x y z => by
    unfold Adj at z
    rw [getD_set (by rw [h.len]; exact hp)] at z
    split at z
    · simp at z
    · exact h.lt x y z
theorem adj_clear {r : List (List Nat)} {p x y : Nat} (h : p < r.length) : Adj (r.set p []) x y ↔ Adj r x y ∧ x ≠ p := by
  unfold Adj
  rw [getD_set h]
  by_cases e : x = p
  · rw [if_pos e]; simp [e]
  · rw [if_neg e]; simp [e]
theorem RowsOk.rep (n : Nat) : RowsOk n (List.replicate n []) where
  len := by simp
  nd := fun x => by
    rw [List.getD_eq_getElem?_getD, List.getElem?_replicate]
    split <;> simp
  lt := fun x y z => by
    unfold Adj at z
    rw [List.getD_eq_getElem?_getD, List.getElem?_replicate] at z
    split at z <;> simp at z
theorem adj_rep {n x y : Nat} : ¬ Adj (List.replicate n []) x y := fun z => by
  unfold Adj at z
  rw [List.getD_eq_getElem?_getD, List.getElem?_replicate] at z
  split at z <;> simp at z
/-! ### joined -/
theorem joinStep_ok {n : Nat} {r : List (List Nat)} {l : Link} (h : RowsOk n r) (hl : l.1 < n ∧ l.2.1 < n) : RowsOk n (joinStep r l) := (h.ains hl.1 hl.2).ains hl.2 hl.1
theorem adj_joinStep {n : Nat} {r : List (List Nat)} {l : Link} {x y : Nat} (h : RowsOk n r) (hl : l.1 < n ∧ l.2.1 < n) : Adj (joinStep r l) x y ↔ Adj r x y ∨ (x = l.1 ∧ y = l.2.1) ∨ (x = l.2.1 ∧ y = l.1) := by
  unfold joinStep
  rw [adj_ains (by rw [ains_length, h.len]; exact hl.2), adj_ains (by rw [h.len]; exact hl.1), or_assoc]
theorem joins_ok {n : Nat} : ∀ {ls : List Link} {r : List (List Nat)}, RowsOk n r → (∀ l ∈ ls, l.1 < n ∧ l.2.1 < n) → RowsOk n (ls.foldl joinStep r)
  | [], _, h, _ => h
  | l :: ls, r, h, hl => by
    rw [List.foldl_cons]
    exact joins_ok (joinStep_ok h (hl l (by simp))) fun l m => hl l (List.mem_cons_of_mem _ m)
theorem adj_joins {n x y : Nat} : ∀ {ls : List Link} {r : List (List Nat)}, RowsOk n r → (∀ l ∈ ls, l.1 < n ∧ l.2.1 < n) → (Adj (ls.foldl joinStep r) x y ↔ Adj r x y ∨ ∃ l ∈ ls, (x = l.1 ∧ y = l.2.1) ∨ (x = l.2.1 ∧ y = l.1))
  | [], _, h, _ => by simp
  | l :: ls, r, h, hl => by
    rw [List.foldl_cons, adj_joins (joinStep_ok h (hl l (by simp))) fun l m => hl l (List.mem_cons_of_mem _ m), adj_joinStep h (hl l (by simp)), or_assoc]
    simp
/-! ### take out -/
theorem join2_ok {n a : Nat} {around : List Nat} : ∀ {xs : List Nat} {r : List (List Nat)}, RowsOk n r → a < n → (∀ b ∈ xs, b < n) → RowsOk n (xs.foldl (fun r b => if a ≠ b then ains r a b else r) r)
  | [], _, h, _, _ => h
  | b :: xs, r, h, ha, hb => by
    rw [List.foldl_cons]
    refine join2_ok (around := around) ?_ ha fun b m => hb b (List.mem_cons_of_mem _ m)
    split
    · exact h.ains ha (hb b (by simp))
    · exact h
theorem adj_join2 {n a x y : Nat} : ∀ {xs : List Nat} {r : List (List Nat)}, RowsOk n r → a < n → (∀ b ∈ xs, b < n) → (Adj (xs.foldl (fun r b => if a ≠ b then ains r a b else r) r) x y ↔ Adj r x y ∨ (x = a ∧ y ∈ xs ∧ y ≠ a))
  | [], _, h, _, _ => by simp
  | b :: xs, r, h, ha, hb => by
    rw [List.foldl_cons]
    have hb2 : ∀ b ∈ xs, b < n := fun b m => hb b (List.mem_cons_of_mem _ m)
    by_cases e : a ≠ b
    · rw [if_pos e, adj_join2 (h.ains ha (hb b (by simp))) ha hb2, adj_ains (by rw [h.len]; exact ha)]
      constructor
      · rintro ((z | ⟨z1, z2⟩) | ⟨z1, z2, z3⟩)
        · exact .inl z
        · exact .inr ⟨z1, by simp [z2], by rw [z2]; exact fun q => e q.symm⟩
        · exact .inr ⟨z1, List.mem_cons_of_mem _ z2, z3⟩
      · rintro (z | ⟨z1, z2, z3⟩)
        · exact .inl (.inl z)
        · rcases List.mem_cons.mp z2 with q | q
          · exact .inl (.inr ⟨z1, q⟩)
          · exact .inr ⟨z1, q, z3⟩
    · rw [if_neg e, adj_join2 h ha hb2]
      have e : a = b := Classical.byContradiction e
      constructor
      · rintro (z | ⟨z1, z2, z3⟩)
        · exact .inl z
        · exact .inr ⟨z1, List.mem_cons_of_mem _ z2, z3⟩
      · rintro (z | ⟨z1, z2, z3⟩)
        · exact .inl z
        · rcases List.mem_cons.mp z2 with q | q
          · exact absurd (q.trans e.symm) z3
          · exact .inr ⟨z1, q, z3⟩
theorem takeStep_ok {n a p : Nat} {around : List Nat} {r : List (List Nat)} (h : RowsOk n r) (ha : a < n) (hb : ∀ b ∈ around, b < n) : RowsOk n (takeStep around p r a) := join2_ok (around := around) (h.drop1 ha) ha hb
theorem adj_takeStep {n a p x y : Nat} {around : List Nat} {r : List (List Nat)} (h : RowsOk n r) (ha : a < n) (hb : ∀ b ∈ around, b < n) : Adj (takeStep around p r a) x y ↔ (Adj r x y ∧ ¬ (x = a ∧ y = p)) ∨ (x = a ∧ y ∈ around ∧ y ≠ a) := by
  unfold takeStep join2
  rw [adj_join2 (h.drop1 ha) ha hb, adj_drop1 (by rw [h.len]; exact ha)]
theorem takes_ok {n p : Nat} {around : List Nat} : ∀ {xs : List Nat} {r : List (List Nat)}, RowsOk n r → (∀ a ∈ xs, a < n) → (∀ b ∈ around, b < n) → RowsOk n (xs.foldl (takeStep around p) r)
  | [], _, h, _, _ => h
  | a :: xs, r, h, ha, hb => by
    rw [List.foldl_cons]
    exact takes_ok (takeStep_ok h (ha a (by simp)) hb) (fun a m => ha a (List.mem_cons_of_mem _ m)) hb
theorem adj_takes {n p x y : Nat} {around : List Nat} (hp : p ∉ around) : ∀ {xs : List Nat} {r : List (List Nat)}, RowsOk n r → (∀ a ∈ xs, a < n) → (∀ b ∈ around, b < n) →
    (Adj (xs.foldl (takeStep around p) r) x y ↔ (x ∉ xs ∧ Adj r x y) ∨ (x ∈ xs ∧ ((Adj r x y ∧ y ≠ p) ∨ (y ∈ around ∧ y ≠ x))))
  | [], _, h, _, _ => by simp
  | a :: xs, r, h, ha, hb => by
    rw [List.foldl_cons, adj_takes hp (takeStep_ok h (ha a (by simp)) hb) (fun a m => ha a (List.mem_cons_of_mem _ m)) hb, adj_takeStep h (ha a (by simp)) hb]
    have hy : y ∈ around → y ≠ p := fun m z => hp (z ▸ m)
    by_cases e : x = a
    · subst e
      by_cases m : x ∈ xs <;> by_cases c : Adj r x y <;> by_cases d : y = p <;> by_cases f : y ∈ around <;> by_cases g : y = x <;> simp_all
    · by_cases m : x ∈ xs <;> simp [e, m]
/-- symmetric, no place its own neighbour -/
structure SymR (r : List (List Nat)) : Prop where
  sy : ∀ x y, Adj r x y → Adj r y x
  ir : ∀ x, ¬ Adj r x x
theorem takeOut_ok {n p : Nat} {r : List (List Nat)} (h : RowsOk n r) (hp : p < n) : RowsOk n (takeOut r p) := (takes_ok h (fun a m => h.lt p a m) fun a m => h.lt p a m).clear hp
theorem adj_takeOut {n p x y : Nat} {r : List (List Nat)} (h : RowsOk n r) (s : SymR r) (hp : p < n) : Adj (takeOut r p) x y ↔ x ≠ p ∧ y ≠ p ∧ (Adj r x y ∨ (Adj r p x ∧ Adj r p y ∧ x ≠ y)) := by
  have ha : ∀ a ∈ r.getD p [], a < n := fun a m => h.lt p a m
  unfold takeOut
  rw [adj_clear (by rw [(takes_ok h ha ha).len]; exact hp), adj_takes (s.ir p) h ha ha]
  have e1 : x ∈ r.getD p [] ↔ Adj r p x := Iff.rfl
  have e2 : y ∈ r.getD p [] ↔ Adj r p y := Iff.rfl
  rw [e1, e2]
  have h1 : Adj r p x ↔ Adj r x p := ⟨s.sy _ _, s.sy _ _⟩
  have h2 := s.ir p
  constructor
  · rintro ⟨⟨z1, z2⟩ | ⟨z1, ⟨z2, z3⟩ | ⟨z2, z3⟩⟩, z4⟩
    · exact ⟨z4, fun e => z1 (h1.mpr (e ▸ z2)), .inl z2⟩
    · exact ⟨z4, z3, .inl z2⟩
    · exact ⟨z4, fun e => h2 (e ▸ z2), .inr ⟨z1, z2, fun e => z3 e.symm⟩⟩
  · rintro ⟨z1, z2, z3 | ⟨z3, z4, z5⟩⟩
    · refine ⟨?_, z1⟩
      by_cases m : Adj r p x
      · exact .inr ⟨m, .inl ⟨z3, z2⟩⟩
      · exact .inl ⟨m, z3⟩
    · exact ⟨.inr ⟨z3, .inr ⟨z4, fun e => z5 e.symm⟩⟩, z1⟩
theorem takeOut_sym {n p : Nat} {r : List (List Nat)} (h : RowsOk n r) (s : SymR r) (hp : p < n) : SymR (takeOut r p) where
  sy := fun x y z => by
    rw [adj_takeOut h s hp] at z ⊢
    obtain ⟨z1, z2, z3 | ⟨z3, z4, z5⟩⟩ := z
    · exact ⟨z2, z1, .inl (s.sy _ _ z3)⟩
    · exact ⟨z2, z1, .inr ⟨z4, z3, fun e => z5 e.symm⟩⟩
  ir := fun x z => by
    rw [adj_takeOut h s hp] at z
    obtain ⟨z1, z2, z3 | ⟨z3, z4, z5⟩⟩ := z
    · exact s.ir x z3
    · exact z5 rfl
theorem joined_ok {N : Net} (hb : ∀ l ∈ N.2, l.1 < N.1 ∧ l.2.1 < N.1) : RowsOk N.1 (joinedL N) := joins_ok (RowsOk.rep _) hb
theorem adj_joined {N : Net} {x y : Nat} (hb : ∀ l ∈ N.2, l.1 < N.1 ∧ l.2.1 < N.1) : Adj (joinedL N) x y ↔ ∃ l ∈ N.2, (x = l.1 ∧ y = l.2.1) ∨ (x = l.2.1 ∧ y = l.1) := by
  unfold joinedL
  rw [adj_joins (RowsOk.rep _) hb]
  simp [adj_rep]
theorem joined_sym {N : Net} (hb : ∀ l ∈ N.2, l.1 < N.1 ∧ l.2.1 < N.1) (hn : ∀ l ∈ N.2, l.1 ≠ l.2.1) : SymR (joinedL N) where
  sy := fun x y z => by
    rw [adj_joined hb] at z ⊢
    obtain ⟨l, m, ⟨e1, e2⟩ | ⟨e1, e2⟩⟩ := z
    · exact ⟨l, m, .inr ⟨e2, e1⟩⟩
    · exact ⟨l, m, .inl ⟨e2, e1⟩⟩
  ir := fun x z => by
    rw [adj_joined hb] at z
    obtain ⟨l, m, ⟨e1, e2⟩ | ⟨e1, e2⟩⟩ := z
    · exact hn l m (e1.symm.trans e2)
    · exact hn l m (e2.symm.trans e1)
theorem nodup_take {order : List Nat} {i x : Nat} (h : order.Nodup) (e : order[i]? = some x) : x ∉ order.take i := by
  intro m
  obtain ⟨j, hj⟩ := List.getElem?_of_mem m
  have hl := (List.getElem?_eq_some_iff.mp hj).1
  rw [List.length_take] at hl
  rw [getElem?_take_lt (by omega)] at hj
  have := (List.getElem?_inj (List.getElem?_eq_some_iff.mp e).1 h).mp (e.trans hj.symm)
  omega
theorem idxOf_get {order : List Nat} {i x : Nat} (h : order.Nodup) (e : order[i]? = some x) : order.idxOf x = i := by
  obtain ⟨hl, rfl⟩ := List.getElem?_eq_some_iff.mp e
  exact h.idxOf_getElem i hl
theorem getD_get {α : Type} {s : List α} {i : Nat} {d : α} (h : i < s.length) : s[i]? = some (s.getD i d) := by
  rw [List.getD_eq_getElem?_getD, List.getElem?_eq_getElem h]; rfl
theorem getD_get' {α : Type} {r : List α} {i : Nat} {d x : α} (h : r[i]? = some x) : r.getD i d = x := by rw [List.getD_eq_getElem?_getD, h]; rfl
theorem ups_fst {rk : List Nat} : ∀ {xs : List Nat} {s : List (List Nat) × List (List Nat)}, (xs.foldl (upStep rk) s).1 = xs.foldl takeOut s.1
  | [], _ => rfl
  | x :: xs, s => by rw [List.foldl_cons, List.foldl_cons, ups_fst]; rfl
theorem takeOuts_ok {n : Nat} : ∀ {xs : List Nat} {r : List (List Nat)}, RowsOk n r → SymR r → (∀ x ∈ xs, x < n) → RowsOk n (xs.foldl takeOut r) ∧ SymR (xs.foldl takeOut r)
  | [], _, h, s, _ => ⟨h, s⟩
  | x :: xs, r, h, s, hx => by
    rw [List.foldl_cons]
    exact takeOuts_ok (takeOut_ok h (hx x (by simp))) (takeOut_sym h s (hx x (by simp))) fun y m => hx y (List.mem_cons_of_mem _ m)
theorem upFound_len (rk : List Nat) (r : List (List Nat)) (p : Nat) : (upFound rk r p).length = (r.getD p []).length := by unfold upFound sortP; simp
theorem ups_snd {n : Nat} {rk : List Nat} : ∀ {xs : List Nat} {s : List (List Nat) × List (List Nat)}, RowsOk n s.1 → SymR s.1 → (∀ x ∈ xs, x < n) → s.2.length = n → (∀ x, (s.2.getD x []).length ≤ n) → (xs.foldl (upStep rk) s).2.length = n ∧ ∀ x, ((xs.foldl (upStep rk) s).2.getD x []).length ≤ n
  | [], _, _, _, _, h, h2 => ⟨h, h2⟩
  | x :: xs, s, h, sy, hx, hl, h2 => by
    rw [List.foldl_cons]
    have hxn := hx x (by simp)
    refine ups_snd (takeOut_ok h hxn) (takeOut_sym h sy hxn) (fun y m => hx y (List.mem_cons_of_mem _ m)) (by show (s.2.set _ _).length = n; rw [List.length_set, hl]) fun y => ?_
    show ((s.2.set x (upFound rk s.1 x)).getD y []).length ≤ n
    rw [getD_set (by rw [hl]; exact hxn)]
    split
    · rw [upFound_len]; exact h.le x
    · exact h2 y
theorem upper_len {N : Net} {order : List Nat} (hN : NetOk N) (ho : IsOrder N.1 order) : (upperL N order).length = N.1 ∧ ∀ x, ((upperL N order).getD x []).length ≤ N.1 :=
  ups_snd (s := (joinedL N, List.replicate N.1 [])) (joined_ok hN.lt) (joined_sym hN.lt hN.ne) ho.lt (by simp) fun x => by
    rw [List.getD_eq_getElem?_getD, List.getElem?_replicate]
    split <;> simp
theorem flatMap_le {α β : Type} {f : α → List β} {k : Nat} : ∀ {xs : List α}, (∀ x ∈ xs, (f x).length ≤ k) → (xs.flatMap f).length ≤ xs.length * k
  | [], _ => by simp
  | x :: xs, h => by
    rw [List.flatMap_cons, List.length_append, List.length_cons, Nat.add_mul, Nat.one_mul]
    have h1 := h x (by simp)
    have h2 := flatMap_le (xs := xs) fun y m => h y (List.mem_cons_of_mem _ m)
    omega
theorem pairs_len {N : Net} {order : List Nat} (hN : NetOk N) (ho : IsOrder N.1 order) : (pairsL N order).length ≤ N.1 * N.1 := by
  have := flatMap_le (f := fun u => ((upperL N order).getD u []).map fun v => (u, v)) (xs := order) (k := N.1) fun x _ => by rw [List.length_map]; exact (upper_len hN ho).2 x
  rw [ho.len] at this
  exact this
end Ov

/-! ## M2 -/
/-! Triangles: what the dicts hold. No library. -/
namespace Ov
open T
theorem tget_dapp {κ : Type} [DecidableEq κ] (d : List (κ × List Nat)) (k j : κ) (v : Nat) : tget (dapp d k v) j = if j = k then some ((tget d k).getD [] ++ [v]) else tget d j := by unfold dapp; rw [tget_tput]
theorem dapp_len {κ : Type} [DecidableEq κ] (d : List (κ × List Nat)) (k : κ) (v : Nat) : (dapp d k v).length ≤ d.length + 1 := tput_length _ _ _
theorem upFold_get (l : Nat) : ∀ (ps : List PP) (d : List (Nat × List Nat)), (tget (ps.foldl (fun d p => dapp d p.1 p.2) d) l).getD [] = (tget d l).getD [] ++ (ps.filter fun p => decide (p.1 = l)).map (·.2)
  | [], d => by simp
  | p :: ps, d => by
    rw [List.foldl_cons, upFold_get l ps, tget_dapp, List.filter_cons]
    by_cases e : l = p.1
    · subst e; rw [if_pos rfl, if_pos (decide_eq_true rfl)]; simp
    · rw [if_neg e, if_neg (by simpa using fun z : p.1 = l => e z.symm)]
theorem upDict_get (ps : List PP) (l : Nat) : (tget (upDict ps) l).getD [] = (ps.filter fun p => decide (p.1 = l)).map (·.2) := by
  unfold upDict; rw [upFold_get]; rfl
theorem upFold_len : ∀ (ps : List PP) (d : List (Nat × List Nat)), (ps.foldl (fun d p => dapp d p.1 p.2) d).length ≤ d.length + ps.length
  | [], d => by simp
  | p :: ps, d => by
    rw [List.foldl_cons, List.length_cons]
    have := upFold_len ps (dapp d p.1 p.2)
    have := dapp_len d p.1 p.2
    omega
theorem low0_get' (k : PP) : ∀ (ps : List PP) (t : Tab (List Nat)), tget (ps.foldl (fun t p => tput t p []) t) k = if k ∈ ps then some [] else tget t k
  | [], t => by simp
  | p :: ps, t => by
    rw [List.foldl_cons, low0_get' k ps, tget_tput]
    by_cases h : k ∈ ps
    · rw [if_pos h, if_pos (by simp [h])]
    · rw [if_neg h]
      by_cases e : k = p
      · rw [if_pos e, if_pos (by simp [e])]
      · rw [if_neg e, if_neg (by simp [e, h])]
theorem low0_get (ps : List PP) (k : PP) : tget (low0 ps) k = if k ∈ ps then some [] else none := by
  unfold low0; rw [low0_get']; rfl
theorem low0_len' : ∀ (ps : List PP) (t : Tab (List Nat)), (ps.foldl (fun t p => tput t p []) t).length ≤ t.length + ps.length
  | [], t => by simp
  | p :: ps, t => by
    rw [List.foldl_cons, List.length_cons]
    have := low0_len' ps (tput t p [])
    have := tput_length t p ([] : List Nat)
    omega
/-- which keys, and how long the lists -/
structure LowOk (found : List PP) (c : Nat) (t : Tab (List Nat)) : Prop where
  ks : ∀ p ∈ found, (tget t p).isSome = true
  le : ∀ p xs, tget t p = some xs → xs.length ≤ c
theorem LowOk.mono {found : List PP} {c e : Nat} {t : Tab (List Nat)} (h : LowOk found c t) (l : c ≤ e) : LowOk found e t := ⟨h.ks, fun p xs z => Nat.le_trans (h.le p xs z) l⟩
theorem LowOk.dapp {found : List PP} {c : Nat} {t : Tab (List Nat)} (h : LowOk found c t) (k : PP) (v : Nat) : LowOk found (c + 1) (dapp t k v) where
  ks := fun p m => by
    rw [tget_dapp]
    split
    · rfl
    · exact h.ks p m
  le := fun p xs z => by
    rw [tget_dapp] at z
    split at z
    · cases z
      rw [List.length_append]
      cases e : tget t k with
      | none => simp
      | some ys => have := h.le k ys e; simp; omega
    · have := h.le p xs z; omega
def triOne (rank : List Nat) (low f : Nat) (t : Tab (List Nat)) (s : Nat) : Tab (List Nat) := if rank.getD f 0 < rank.getD s 0 then dapp t (f, s) low else t
theorem LowOk.one {found : List PP} {c : Nat} {t : Tab (List Nat)} (h : LowOk found c t) (rank : List Nat) (low f s : Nat) : LowOk found (c + 1) (triOne rank low f t s) := by
  unfold triOne
  split
  · exact h.dapp _ _
  · exact h.mono (by omega)
theorem LowOk.inn {found : List PP} {rank : List Nat} {low f : Nat} : ∀ {us : List Nat} {c : Nat} {t : Tab (List Nat)}, LowOk found c t → LowOk found (c + us.length) (us.foldl (triOne rank low f) t)
  | [], _, _, h => h
  | s :: us, c, t, h => by
    rw [List.foldl_cons, List.length_cons]
    exact (LowOk.inn (h.one rank low f s)).mono (by omega)
theorem triIn_eq (rank : List Nat) (low f : Nat) (us : List Nat) (t : Tab (List Nat)) : triIn rank low f us t = us.foldl (triOne rank low f) t := rfl
theorem LowOk.mid {found : List PP} {rank : List Nat} {low : Nat} {vs : List Nat} : ∀ {us : List Nat} {c : Nat} {t : Tab (List Nat)}, LowOk found c t → LowOk found (c + us.length * vs.length) (us.foldl (fun t f => triIn rank low f vs t) t)
  | [], _, _, h => h.mono (by simp)
  | f :: us, c, t, h => by
    rw [List.foldl_cons, List.length_cons, Nat.add_mul, Nat.one_mul]
    exact (LowOk.mid (h.inn (rank := rank) (low := low) (f := f) (us := vs))).mono (by omega)
theorem LowOk.out {found : List PP} {rank : List Nat} {ud : List (Nat × List Nat)} {m : Nat} (hm : ∀ l, ((tget ud l).getD []).length ≤ m) : ∀ {xs : List Nat} {c : Nat} {t : Tab (List Nat)}, LowOk found c t → LowOk found (c + xs.length * (m * m)) (xs.foldl (triStep rank ud) t)
  | [], _, _, h => h.mono (by simp)
  | x :: xs, c, t, h => by
    rw [List.foldl_cons, List.length_cons, Nat.add_mul, Nat.one_mul]
    have h1 := LowOk.mid (rank := rank) (low := x) (vs := (tget ud x).getD []) (us := (tget ud x).getD []) h
    have := Nat.mul_le_mul (hm x) (hm x)
    exact (LowOk.out hm (h1.mono (Nat.add_le_add_left this c))).mono (by omega)
theorem low0_ok (found : List PP) : LowOk found 0 (low0 found) where
  ks := fun p m => by rw [low0_get, if_pos m]; rfl
  le := fun p xs z => by
    rw [low0_get] at z
    split at z
    · cases z; simp
    · cases z
/-- what triangles is asked with -/
structure TriOk (found : List PP) (order : List Nat) : Prop where
  n : order.length ≤ 200
  nd : found.Nodup
  lt : ∀ p ∈ found, p.1 < order.length ∧ p.2 < order.length
  cl : ∀ l f s, (l, f) ∈ found → (l, s) ∈ found → (rankL order).getD f 0 < (rankL order).getD s 0 → (f, s) ∈ found
theorem nodup_map_on {α β : Type} {f : α → β} : ∀ {l : List α}, (∀ a ∈ l, ∀ b ∈ l, f a = f b → a = b) → l.Nodup → (l.map f).Nodup
  | [], _, _ => by simp
  | a :: l, h, nd => by
    rw [List.map_cons]
    have nd := List.nodup_cons.mp nd
    refine List.nodup_cons.mpr ⟨fun m => ?_, nodup_map_on (fun x hx y hy => h x (List.mem_cons_of_mem _ hx) y (List.mem_cons_of_mem _ hy)) nd.2⟩
    obtain ⟨c, hc, e⟩ := List.mem_map.mp m
    exact nd.1 (by rw [h a (by simp) c (List.mem_cons_of_mem _ hc) e.symm]; exact hc)
theorem ups_len {found : List PP} {n : Nat} (nd : found.Nodup) (lt : ∀ p ∈ found, p.2 < n) (l : Nat) : ((found.filter fun p => decide (p.1 = l)).map (·.2)).length ≤ n := by
  refine nodup_len ?_ ?_
  · refine nodup_map_on ?_ (nd.filter _) 
    intro p hp q hq e
    simp only [List.mem_filter, decide_eq_true_eq] at hp hq
    exact Prod.ext (hp.2.trans hq.2.symm) e
  · intro k hk
    obtain ⟨p, hp, rfl⟩ := List.mem_map.mp hk
    exact lt p (List.mem_filter.mp hp).1
theorem ups_mem {found : List PP} {l f : Nat} (h : f ∈ (found.filter fun p => decide (p.1 = l)).map (·.2)) : (l, f) ∈ found := by
  obtain ⟨p, hp, rfl⟩ := List.mem_map.mp h
  obtain ⟨h1, h2⟩ := List.mem_filter.mp hp
  have h2 : p.1 = l := of_decide_eq_true h2
  subst h2
  exact h1
theorem pp_len {n : Nat} {found : List PP} (nd : found.Nodup) (lt : ∀ p ∈ found, p.1 < n ∧ p.2 < n) : found.length ≤ n * n := by
  have h : (found.map fun p => p.1 * n + p.2).Nodup := by
    refine nodup_map_on ?_ nd
    intro p hp q hq e
    have h1 := lt p hp
    have h2 := lt q hq
    have a1 : (p.1 * n + p.2) / n = p.1 := by rw [Nat.mul_comm, Nat.mul_add_div (by omega), Nat.div_eq_of_lt h1.2]; rfl
    have a2 : (q.1 * n + q.2) / n = q.1 := by rw [Nat.mul_comm, Nat.mul_add_div (by omega), Nat.div_eq_of_lt h2.2]; rfl
    have b1 : p.1 = q.1 := by rw [← a1, ← a2, e]
    exact Prod.ext b1 (by rw [b1] at e; omega)
  have := nodup_len h fun k hk => by
    obtain ⟨p, hp, rfl⟩ := List.mem_map.mp hk
    have h1 := lt p hp
    show p.1 * n + p.2 < n * n
    have : (p.1 + 1) * n ≤ n * n := Nat.mul_le_mul_right _ h1.1
    rw [Nat.add_mul] at this
    omega
  simpa using this
end Ov

/-! ## M3 -/
/-! The pairs: closed, sorted, with all links. No library. -/
namespace Ov
open T
def rowsAt (N : Net) (order : List Nat) (i : Nat) : List (List Nat) := (order.take i).foldl takeOut (joinedL N)
abbrev rk (order : List Nat) (p : Nat) : Nat := (rankL order).getD p 0
theorem rk_eq {n : Nat} {order : List Nat} (ho : IsOrder n order) {p : Nat} (hp : p < n) : rk order p = order.idxOf p := by
  unfold rk rankL
  rw [List.getD_eq_getElem?_getD, map_range_get _ (by rw [ho.len]; exact hp)]; rfl
theorem rk_get {n : Nat} {order : List Nat} (ho : IsOrder n order) {p : Nat} (hp : p < n) : order[rk order p]? = some p := by
  rw [rk_eq ho hp]
  have m := ho.all p hp
  have h := List.idxOf_lt_length_of_mem m
  rw [List.getElem?_eq_getElem h, List.getElem_idxOf h]
theorem rk_at {n : Nat} {order : List Nat} (ho : IsOrder n order) {i p : Nat} (h : order[i]? = some p) : rk order p = i := by
  rw [rk_eq ho (ho.lt p (List.mem_of_getElem? h))]
  exact idxOf_get ho.nd h
theorem rk_lt {n : Nat} {order : List Nat} (ho : IsOrder n order) {p : Nat} (hp : p < n) : rk order p < n := by
  have := (List.getElem?_eq_some_iff.mp (rk_get ho hp)).1
  rw [ho.len] at this
  exact this
theorem rk_inj {n : Nat} {order : List Nat} (ho : IsOrder n order) {p q : Nat} (hp : p < n) (hq : q < n) (h : rk order p = rk order q) : p = q := by
  have h1 := rk_get ho hp
  rw [h, rk_get ho hq] at h1
  exact (Option.some.inj h1).symm
theorem mem_take_iff {n : Nat} {order : List Nat} (ho : IsOrder n order) {p i : Nat} (hp : p < n) : p ∈ order.take i ↔ rk order p < i := by
  constructor
  · intro m
    obtain ⟨j, hj⟩ := List.getElem?_of_mem m
    have hl := (List.getElem?_eq_some_iff.mp hj).1
    rw [List.length_take] at hl
    rw [getElem?_take_lt (by omega)] at hj
    rw [rk_at ho hj]; omega
  · intro h
    have := rk_get ho hp
    rw [← getElem?_take_lt (i := i) h] at this
    exact List.mem_of_getElem? this
section
variable {N : Net} {order : List Nat} (hN : NetOk N) (ho : IsOrder N.1 order)
include hN ho
theorem rowsAt_ok (i : Nat) : RowsOk N.1 (rowsAt N order i) ∧ SymR (rowsAt N order i) := takeOuts_ok (joined_ok hN.lt) (joined_sym hN.lt hN.ne) fun x m => ho.lt x (List.mem_of_mem_take m)
theorem rowsAt_succ {i p : Nat} (h : order[i]? = some p) : rowsAt N order (i + 1) = takeOut (rowsAt N order i) p := by
  unfold rowsAt; rw [take_foldl h]
theorem adj_succ {i p x y : Nat} (h : order[i]? = some p) : Adj (rowsAt N order (i + 1)) x y ↔ x ≠ p ∧ y ≠ p ∧ (Adj (rowsAt N order i) x y ∨ (Adj (rowsAt N order i) p x ∧ Adj (rowsAt N order i) p y ∧ x ≠ y)) := by
  rw [rowsAt_succ hN ho h]
  have := rowsAt_ok hN ho i
  exact adj_takeOut this.1 this.2 (ho.lt p (List.mem_of_getElem? h))
theorem rowsAt_ge {i : Nat} (h : N.1 ≤ i) : rowsAt N order i = rowsAt N order N.1 := by
  unfold rowsAt
  rw [List.take_of_length_le (by rw [ho.len]; exact h), List.take_of_length_le (by rw [ho.len]; exact Nat.le_refl _)]
theorem adj_out : ∀ (i : Nat) {x y : Nat}, Adj (rowsAt N order i) x y → x ∉ order.take i ∧ y ∉ order.take i
  | 0, _, _, _ => by simp
  | i + 1, x, y, h => by
    cases e : order[i]? with
    | none =>
      have hl : order.length ≤ i := by simpa using e
      have h2 : rowsAt N order (i + 1) = rowsAt N order i := by
        unfold rowsAt
        rw [List.take_of_length_le (by omega), List.take_of_length_le hl]
      rw [h2] at h
      have := adj_out i h
      rw [List.take_of_length_le (by omega)]
      rw [List.take_of_length_le hl] at this
      exact this
    | some p =>
      rw [adj_succ hN ho e] at h
      rw [List.take_add_one, e]
      obtain ⟨h1, h2, h3 | ⟨h3, h4, _⟩⟩ := h
      · have := adj_out i h3
        simp [this.1, this.2, h1, h2]
      · have a := adj_out i h3
        have b := adj_out i h4
        simp [a.2, b.2, h1, h2]
theorem adj_keep {x y : Nat} (hx : x < N.1) (hy : y < N.1) {i : Nat} (h : Adj (rowsAt N order i) x y) : ∀ j, i ≤ j → j ≤ rk order x → j ≤ rk order y → Adj (rowsAt N order j) x y := by
  intro j hij
  induction j with
  | zero => intro _ _; obtain rfl : i = 0 := by omega
            exact h
  | succ j ih =>
    intro h1 h2
    by_cases e : i = j + 1
    · rw [← e]; exact h
    · have h3 := ih (by omega) (by omega) (by omega)
      have hl := rk_lt ho hx
      have hjl : j < order.length := by rw [ho.len]; omega
      have hg : order[j]? = some order[j] := List.getElem?_eq_getElem hjl
      have hr := rk_at ho hg
      rw [adj_succ hN ho hg]
      exact ⟨fun z => by rw [z] at h1; omega, fun z => by rw [z] at h2; omega, .inl h3⟩
end
/-! ### the rows of upper -/
theorem ups_get {rkl : List Nat} : ∀ {xs : List Nat} {s : List (List Nat) × List (List Nat)} {i p : Nat}, xs.Nodup → (∀ x ∈ xs, x < s.2.length) → xs[i]? = some p → (xs.foldl (upStep rkl) s).2.getD p [] = upFound rkl ((xs.take i).foldl takeOut s.1) p := by
  have keep : ∀ (xs : List Nat) (s : List (List Nat) × List (List Nat)) (p : Nat), p ∉ xs → (∀ x ∈ xs, x < s.2.length) → (xs.foldl (upStep rkl) s).2.getD p [] = s.2.getD p [] := by
    intro xs
    induction xs with
    | nil => intros; rfl
    | cons x xs ih =>
      intro s p hp hx
      rw [List.foldl_cons, ih _ p (fun m => hp (List.mem_cons_of_mem _ m)) fun y m => by
        show y < (s.2.set x _).length
        rw [List.length_set]; exact hx y (List.mem_cons_of_mem _ m)]
      show (s.2.set x _).getD p [] = _
      rw [getD_set (hx x (by simp)), if_neg fun z => hp (by simp [z])]
  intro xs
  induction xs with
  | nil => intro s i p _ _ h; cases h
  | cons x xs ih =>
    intro s i p nd hx h
    have nd := List.nodup_cons.mp nd
    have hl : ∀ y ∈ xs, y < (upStep rkl s x).2.length := fun y m => by
      show y < (s.2.set x _).length
      rw [List.length_set]; exact hx y (List.mem_cons_of_mem _ m)
    cases i with
    | zero =>
      cases h
      rw [List.foldl_cons, keep xs _ x nd.1 hl]
      show (s.2.set x _).getD x [] = _
      rw [getD_set (hx x (by simp)), if_pos rfl]
      rfl
    | succ i =>
      rw [List.foldl_cons, ih nd.2 hl h]
      rfl
theorem upFound_perm (rkl : List Nat) (R : List (List Nat)) (p : Nat) : (upFound rkl R p).Perm (R.getD p []) := by
  unfold upFound sortP
  have h := (List.mergeSort_perm ((R.getD p []).map fun o => (rkl.getD o 0, o)) leP).map (·.2)
  rw [List.map_map] at h
  have e : ((fun x : Nat × Nat => x.2) ∘ fun o => (rkl.getD o 0, o)) = id := rfl
  rw [e, List.map_id] at h
  exact h
theorem mem_upFound {rkl : List Nat} {R : List (List Nat)} {p v : Nat} : v ∈ upFound rkl R p ↔ Adj R p v := (upFound_perm rkl R p).mem_iff
section
variable {N : Net} {order : List Nat} (hN : NetOk N) (ho : IsOrder N.1 order)
include hN ho
theorem upper_get {i p : Nat} (h : order[i]? = some p) : (upperL N order).getD p [] = upFound (rankL order) (rowsAt N order i) p := by
  unfold upperL
  rw [ups_get ho.nd (fun x m => by simp; exact ho.lt x m) h]
  rfl
theorem mem_pairs {u v : Nat} : (u, v) ∈ pairsL N order ↔ u < N.1 ∧ Adj (rowsAt N order (rk order u)) u v := by
  unfold pairsL
  rw [List.mem_flatMap]
  constructor
  · rintro ⟨w, hw, m⟩
    obtain ⟨z, hz, e⟩ := List.mem_map.mp m
    cases e
    have hn := ho.lt u hw
    refine ⟨hn, ?_⟩
    rw [upper_get hN ho (rk_get ho hn)] at hz
    exact mem_upFound.mp hz
  · rintro ⟨hn, h⟩
    refine ⟨u, ho.all u hn, List.mem_map.mpr ⟨v, ?_, rfl⟩⟩
    rw [upper_get hN ho (rk_get ho hn)]
    exact mem_upFound.mpr h
theorem pairs_lt {u v : Nat} (h : (u, v) ∈ pairsL N order) : u < N.1 ∧ v < N.1 := by
  have h := (mem_pairs hN ho).mp h
  exact ⟨h.1, (rowsAt_ok hN ho _).1.lt _ _ h.2⟩
theorem pairs_up {u v : Nat} (h : (u, v) ∈ pairsL N order) : rk order u < rk order v := by
  have hl := pairs_lt hN ho h
  have h := ((mem_pairs hN ho).mp h).2
  have h1 := (adj_out hN ho _ h).2
  rw [mem_take_iff ho hl.2] at h1
  have h2 : u ≠ v := fun z => by rw [← z] at h; exact (rowsAt_ok hN ho _).2.ir u h
  have h3 : rk order u ≠ rk order v := fun z => h2 (rk_inj ho hl.1 hl.2 z)
  omega
theorem pairs_cl {l f s : Nat} (h1 : (l, f) ∈ pairsL N order) (h2 : (l, s) ∈ pairsL N order) (h : rk order f < rk order s) : (f, s) ∈ pairsL N order := by
  have u1 := pairs_up hN ho h1
  have u2 := pairs_up hN ho h2
  have l1 := pairs_lt hN ho h1
  have l2 := pairs_lt hN ho h2
  have a1 := ((mem_pairs hN ho).mp h1).2
  have a2 := ((mem_pairs hN ho).mp h2).2
  rw [mem_pairs hN ho]
  refine ⟨l1.2, adj_keep hN ho l1.2 l2.2 (i := rk order l + 1) ?_ _ (by omega) (Nat.le_refl _) (by omega)⟩
  rw [adj_succ hN ho (rk_get ho l1.1)]
  exact ⟨fun z => by rw [z] at u1; omega, fun z => by rw [z] at u2; omega, .inr ⟨a1, a2, fun z => by rw [z] at h; omega⟩⟩
theorem pairs_link {a b : Nat} (h : ∃ l ∈ N.2, (a = l.1 ∧ b = l.2.1) ∨ (a = l.2.1 ∧ b = l.1)) (hr : rk order a < rk order b) : (a, b) ∈ pairsL N order := by
  have hj := (adj_joined hN.lt).mpr h
  have hb : b < N.1 := (joined_ok hN.lt).lt a b hj
  have ha : a < N.1 := (joined_ok hN.lt).lt b a ((joined_sym hN.lt hN.ne).sy _ _ hj)
  rw [mem_pairs hN ho]
  exact ⟨ha, adj_keep hN ho ha hb (i := 0) (by exact hj) _ (Nat.zero_le _) (Nat.le_refl _) (by omega)⟩
theorem pairs_nd : (pairsL N order).Nodup := by
  have key : ∀ xs : List Nat, xs.Nodup → (∀ x ∈ xs, x < N.1) → (xs.flatMap fun u => ((upperL N order).getD u []).map fun v => (u, v)).Nodup := by
    intro xs
    induction xs with
    | nil => intro _ _; simp
    | cons x xs ih =>
      intro nd hx
      have nd := List.nodup_cons.mp nd
      rw [List.flatMap_cons]
      refine List.nodup_append.mpr ⟨nodup_map_on (fun a _ b _ e => (Prod.ext_iff.mp e).2) ?_, ih nd.2 fun y m => hx y (List.mem_cons_of_mem _ m), fun p hp q hq e => ?_⟩
      · rw [upper_get hN ho (rk_get ho (hx x (by simp)))]
        exact (upFound_perm _ _ _).nodup_iff.mpr ((rowsAt_ok hN ho _).1.nd x)
      · obtain ⟨v, _, rfl⟩ := List.mem_map.mp hp
        obtain ⟨y, hy, m⟩ := List.mem_flatMap.mp hq
        obtain ⟨z, _, rfl⟩ := List.mem_map.mp m
        cases e
        exact nd.1 hy
  exact key order ho.nd ho.lt
theorem pairs_srt : (pairsL N order).Pairwise fun p q => rk order p.1 ≤ rk order q.1 := by
  have h0 : order.Pairwise fun a b => rk order a < rk order b := by
    rw [List.pairwise_iff_getElem]
    intro i j hi hj hij
    rw [rk_at ho (List.getElem?_eq_getElem hi), rk_at ho (List.getElem?_eq_getElem hj)]
    exact hij
  unfold pairsL
  generalize hU : upperL N order = U
  clear hU
  have key : ∀ xs : List Nat, xs.Pairwise (fun a b => rk order a < rk order b) → (xs.flatMap fun u => (U.getD u []).map fun v => (u, v)).Pairwise fun p q => rk order p.1 ≤ rk order q.1 := by
    intro xs
    induction xs with
    | nil => intro _; simp
    | cons x xs ih =>
      intro h
      have h := List.pairwise_cons.mp h
      rw [List.flatMap_cons]
      refine List.pairwise_append.mpr ⟨?_, ih h.2, fun p hp q hq => ?_⟩
      · rw [List.pairwise_map]
        exact List.pairwise_iff_getElem.mpr fun _ _ _ _ _ => Nat.le_refl _
      · obtain ⟨v, _, rfl⟩ := List.mem_map.mp hp
        obtain ⟨y, hy, m⟩ := List.mem_flatMap.mp hq
        obtain ⟨z, _, rfl⟩ := List.mem_map.mp m
        exact Nat.le_of_lt (h.1 y hy)
  exact key order h0
theorem pairs_before {f s w t i : Nat} (hi : (pairsL N order)[i]? = some (f, s)) (hw : (w, t) ∈ pairsL N order) (h : rk order w < rk order f) : (w, t) ∈ (pairsL N order).take i := by
  obtain ⟨k, hk⟩ := List.getElem?_of_mem hw
  obtain ⟨hil, ei⟩ := List.getElem?_eq_some_iff.mp hi
  obtain ⟨hkl, ek⟩ := List.getElem?_eq_some_iff.mp hk
  have hlt : k < i := by
    apply Classical.byContradiction
    intro hn
    by_cases e : i = k
    · subst e
      rw [hi] at hk
      cases hk
      omega
    · have := List.pairwise_iff_getElem.mp (pairs_srt hN ho) i k hil hkl (by omega)
      rw [ei, ek] at this
      have this : rk order f ≤ rk order w := this
      omega
  rw [← getElem?_take_lt (i := i) hlt] at hk
  exact List.mem_of_getElem? hk
theorem tri_ok (h2 : N.1 ≤ 200) : TriOk (pairsL N order) order where
  n := by rw [ho.len]; exact h2
  nd := pairs_nd hN ho
  lt := fun p hp => by rw [ho.len]; exact pairs_lt hN ho hp
  cl := fun l f s h1 h2 h3 => pairs_cl hN ho h1 h2 h3
end
end Ov

/-! ## M4 -/
/-! Triangles and filling: what stands where. No library. -/
namespace Ov
open T
def lows (t : Tab (List Nat)) (p : PP) : List Nat := (tget t p).getD []
theorem mem_dapp {t : Tab (List Nat)} {k j : PP} {v x : Nat} : v ∈ lows (dapp t k x) j ↔ v ∈ lows t j ∨ (j = k ∧ v = x) := by
  unfold lows
  rw [tget_dapp]
  by_cases e : j = k
  · subst e; rw [if_pos rfl]; simp
  · rw [if_neg e]; simp [e]
theorem mem_triOne {rank : List Nat} {low f s v : Nat} {t : Tab (List Nat)} {j : PP} : v ∈ lows (triOne rank low f t s) j ↔ v ∈ lows t j ∨ (rank.getD f 0 < rank.getD s 0 ∧ j = (f, s) ∧ v = low) := by
  unfold triOne
  by_cases h : rank.getD f 0 < rank.getD s 0
  · rw [if_pos h, mem_dapp]; simp only [h, true_and]
  · rw [if_neg h]; simp only [h, false_and, or_false]
theorem mem_triIn {rank : List Nat} {low f v : Nat} {j : PP} : ∀ {us : List Nat} {t : Tab (List Nat)}, v ∈ lows (us.foldl (triOne rank low f) t) j ↔ v ∈ lows t j ∨ ∃ s ∈ us, rank.getD f 0 < rank.getD s 0 ∧ j = (f, s) ∧ v = low
  | [], _ => by simp
  | s :: us, t => by
    rw [List.foldl_cons, mem_triIn, mem_triOne, or_assoc]
    simp only [List.mem_cons, exists_eq_or_imp]
theorem mem_triMid {rank : List Nat} {low v : Nat} {j : PP} {vs : List Nat} : ∀ {us : List Nat} {t : Tab (List Nat)}, v ∈ lows (us.foldl (fun t f => triIn rank low f vs t) t) j ↔ v ∈ lows t j ∨ ∃ f ∈ us, ∃ s ∈ vs, rank.getD f 0 < rank.getD s 0 ∧ j = (f, s) ∧ v = low
  | [], _ => by simp
  | f :: us, t => by
    rw [List.foldl_cons, mem_triMid, triIn_eq, mem_triIn, or_assoc]
    simp only [List.mem_cons, exists_eq_or_imp]
theorem mem_triOut {rank : List Nat} {ud : List (Nat × List Nat)} {v : Nat} {j : PP} : ∀ {xs : List Nat} {t : Tab (List Nat)}, v ∈ lows (xs.foldl (triStep rank ud) t) j ↔ v ∈ lows t j ∨ ∃ l ∈ xs, ∃ f ∈ (tget ud l).getD [], ∃ s ∈ (tget ud l).getD [], rank.getD f 0 < rank.getD s 0 ∧ j = (f, s) ∧ v = l
  | [], _ => by simp
  | l :: xs, t => by
    rw [List.foldl_cons, mem_triOut]
    unfold triStep
    rw [mem_triMid, or_assoc]
    simp only [List.mem_cons, exists_eq_or_imp]
theorem mem_ups {found : List PP} {l f : Nat} : f ∈ (tget (upDict found) l).getD [] ↔ (l, f) ∈ found := by
  rw [upDict_get]
  constructor
  · exact ups_mem
  · intro h
    exact List.mem_map.mpr ⟨(l, f), List.mem_filter.mpr ⟨h, by simp⟩, rfl⟩
theorem mem_tri {found : List PP} {order : List Nat} (ho : IsOrder order.length order) (hT : TriOk found order) {w f s : Nat} : w ∈ lows (trianglesL found order) (f, s) ↔ (w, f) ∈ found ∧ (w, s) ∈ found ∧ rk order f < rk order s := by
  unfold trianglesL
  rw [mem_triOut]
  have h0 : w ∉ lows (low0 found) (f, s) := by
    unfold lows
    rw [low0_get]
    split <;> simp
  constructor
  · rintro (h | ⟨l, _, f', h1, s', h2, h3, e, rfl⟩)
    · exact absurd h h0
    · cases e
      exact ⟨mem_ups.mp h1, mem_ups.mp h2, h3⟩
  · rintro ⟨h1, h2, h3⟩
    exact .inr ⟨w, ho.all w (hT.lt _ h1).1, f, mem_ups.mpr h1, s, mem_ups.mpr h2, h3, rfl, rfl⟩
theorem tri_some {found : List PP} {order : List Nat} (hT : TriOk found order) : LowOk found (order.length * (order.length * order.length)) (trianglesL found order) := by
  have := LowOk.out (rank := rankL order) (ud := upDict found) (m := order.length) (fun l => by rw [upDict_get]; exact ups_len hT.nd (fun p m => (hT.lt p m).2) l) (xs := order) (low0_ok found)
  exact this.mono (by omega)
/-! ### filling: the keys -/
abbrev Has {α : Type} (t : Tab α) (x y : Nat) : Prop := (tget t (x, y)).isSome = true
theorem has_tput {α : Type} {t : Tab α} {x y : Nat} {k : PP} {v : α} (h : Has t x y ∨ (x, y) = k) : Has (tput t k v) x y := by
  unfold Has
  rw [tget_tput]
  split
  · rfl
  · rename_i n
    exact h.elim id fun e => absurd e n
/-- both directions of each pair stand there -/
structure Both (found : List PP) (s : PM) : Prop where
  p1 : ∀ p ∈ found, Has s.1 p.1 p.2
  p2 : ∀ p ∈ found, Has s.1 p.2 p.1
  m1 : ∀ p ∈ found, Has s.2 p.1 p.2
  m2 : ∀ p ∈ found, Has s.2 p.2 p.1
theorem has_way {L : Tab (Option Int)} {ws : List Nat} {s : PM} {w : PP} {x y : Nat} : (Has s.1 x y ∨ (x, y) = w → Has (fillWay L ws s w).1 x y) ∧ (Has s.2 x y ∨ (x, y) = w → Has (fillWay L ws s w).2 x y) := ⟨fun h => has_tput h, fun h => has_tput h⟩
theorem Both.step {L : Tab (Option Int)} {low : Tab (List Nat)} {found : List PP} {s : PM} (h : Both found s) (p : PP) : Both (found ++ [p]) (fillStep L low s p) where
  p1 := fun q m => by
    unfold fillStep
    rcases List.mem_append.mp m with m | m
    · exact has_way.1 (.inl (has_way.1 (.inl (h.p1 q m))))
    · obtain rfl : q = p := by simpa using m
      exact has_way.1 (.inl (has_way.1 (.inr rfl)))
  p2 := fun q m => by
    unfold fillStep
    rcases List.mem_append.mp m with m | m
    · exact has_way.1 (.inl (has_way.1 (.inl (h.p2 q m))))
    · obtain rfl : q = p := by simpa using m
      exact has_way.1 (.inr rfl)
  m1 := fun q m => by
    unfold fillStep
    rcases List.mem_append.mp m with m | m
    · exact has_way.2 (.inl (has_way.2 (.inl (h.m1 q m))))
    · obtain rfl : q = p := by simpa using m
      exact has_way.2 (.inl (has_way.2 (.inr rfl)))
  m2 := fun q m => by
    unfold fillStep
    rcases List.mem_append.mp m with m | m
    · exact has_way.2 (.inl (has_way.2 (.inl (h.m2 q m))))
    · obtain rfl : q = p := by simpa using m
      exact has_way.2 (.inr rfl)
theorem both_take {L : Tab (Option Int)} {low : Tab (List Nat)} {found : List PP} (i : Nat) : Both (found.take i) ((found.take i).foldl (fillStep L low) ([], [])) := by
  induction i with
  | zero => rw [List.take_zero]; exact ⟨by simp, by simp, by simp, by simp⟩
  | succ i ih =>
    cases e : found[i]? with
    | none =>
      have hl : found.length ≤ i := by simpa using e
      rw [List.take_of_length_le (by omega)]
      rw [List.take_of_length_le hl] at ih
      exact ih
    | some p =>
      rw [take_foldl e, List.take_add_one, e]
      exact ih.step p
theorem fillWay_len (L : Tab (Option Int)) (ws : List Nat) (s : PM) (w : PP) : (fillWay L ws s w).1.length ≤ s.1.length + 1 ∧ (fillWay L ws s w).2.length ≤ s.2.length + 1 := ⟨tput_length _ _ _, tput_length _ _ _⟩
theorem fills_len {L : Tab (Option Int)} {low : Tab (List Nat)} : ∀ (ps : List PP) (s : PM), (ps.foldl (fillStep L low) s).1.length ≤ s.1.length + 2 * ps.length ∧ (ps.foldl (fillStep L low) s).2.length ≤ s.2.length + 2 * ps.length
  | [], s => by simp
  | p :: ps, s => by
    rw [List.foldl_cons, List.length_cons]
    have h1 := fills_len (L := L) (low := low) ps (fillStep L low s p)
    have h2 := fillWay_len L ((tget low p).getD []) s p
    have h3 := fillWay_len L ((tget low p).getD []) (fillWay L ((tget low p).getD []) s p) (p.2, p.1)
    unfold fillStep at h1 ⊢
    omega
section
variable {N : Net} {order : List Nat} (hN : NetOk N) (ho : IsOrder N.1 order) (h2 : N.1 ≤ 200)
include hN ho h2
/-- the lower places of a pair stand before it -/
theorem lows_before {f s w i : Nat} (hi : (pairsL N order)[i]? = some (f, s)) (hw : w ∈ lows (trianglesL (pairsL N order) order) (f, s)) : (w, f) ∈ (pairsL N order).take i ∧ (w, s) ∈ (pairsL N order).take i := by
  have ho' : IsOrder order.length order := by rw [ho.len]; exact ho
  obtain ⟨a1, a2, a3⟩ := (mem_tri ho' (tri_ok hN ho h2)).mp hw
  have := pairs_up hN ho a1
  exact ⟨pairs_before hN ho hi a1 this, pairs_before hN ho hi a2 this⟩
end
end Ov

/-! ## M5 -/
/-! Mending: what the tables hold meanwhile. No library. -/
namespace Ov
open T
/-- the session at a turn of the mending -/
def sesM (S : Ses) (m : MendS) : Ses := { S with prices := m.prices, middles := m.middles, looked := m.looked }
structure MI (found : List PP) (c : Nat) (m : MendS) : Prop where
  p1 : ∀ p ∈ found, Has m.prices p.1 p.2
  p2 : ∀ p ∈ found, Has m.prices p.2 p.1
  lp : m.prices.length ≤ c
  lm : m.middles.length ≤ c
  ll : m.looked.length ≤ c
  lc : m.changes.length ≤ c
  lh : m.changed.length ≤ c
theorem MI.mono {found : List PP} {c d : Nat} {m : MendS} (h : MI found c m) (l : c ≤ d) : MI found d m := ⟨h.p1, h.p2, Nat.le_trans h.lp l, Nat.le_trans h.lm l, Nat.le_trans h.ll l, Nat.le_trans h.lc l, Nat.le_trans h.lh l⟩
theorem MI.way {found : List PP} {c : Nat} {m : MendS} (h : MI found c m) (L : Tab (Option Int)) (ws : List Nat) (ed : List PP) (w : PP) : MI found (c + 1) (mendWay L ws ed m w) := by
  unfold mendWay
  split
  · refine ⟨fun p hp => has_tput (.inl (h.p1 p hp)), fun p hp => has_tput (.inl (h.p2 p hp)), ?_, ?_, ?_, ?_, ?_⟩
    · have := tput_length m.prices w (bestWay L m.prices ws w.1 w.2).1
      have := h.lp
      dsimp only
      omega
    · have := tput_length m.middles w (bestWay L m.prices ws w.1 w.2).2
      have := h.lm
      dsimp only
      omega
    · have := h.ll
      dsimp only
      simp; omega
    · have := h.lc
      dsimp only
      split
      · omega
      · simp; omega
    · have := h.lh
      have := tput_length m.changed w true
      dsimp only
      split
      · omega
      · omega
  · exact h.mono (by omega)
theorem MI.steps {found : List PP} {L : Tab (Option Int)} {low : Tab (List Nat)} {ed : List PP} : ∀ {ps : List PP} {c : Nat} {m : MendS}, MI found c m → MI found (c + 2 * ps.length) (ps.foldl (mendStep L low ed) m)
  | [], _, _, h => h.mono (by simp)
  | p :: ps, c, m, h => by
    rw [List.foldl_cons, List.length_cons]
    exact (MI.steps ((h.way L _ ed p).way L _ ed (p.2, p.1))).mono (by omega)
/-- what mending asks of a session -/
structure SesOk (S : Ses) : Prop where
  pl : S.pairs.length ≤ 40000
  lk : S.links.length ≤ 100000
  low : ∀ p ∈ S.pairs, (tget S.lower p).isSome = true
  wl : ∀ p l, tget S.lower p = some l → l.length ≤ 100000
  ws : ∀ p ∈ S.pairs, ∀ w ∈ lows S.lower p, (w, p.1) ∈ S.pairs ∧ (w, p.2) ∈ S.pairs
  p1 : ∀ p ∈ S.pairs, Has S.prices p.1 p.2
  p2 : ∀ p ∈ S.pairs, Has S.prices p.2 p.1
  m1 : ∀ p ∈ S.pairs, Has S.middles p.1 p.2
  m2 : ∀ p ∈ S.pairs, Has S.middles p.2 p.1
  lp : S.prices.length ≤ 100000
  lm : S.middles.length ≤ 100000
theorem mend0 {S : Ses} (h : SesOk S) : MI S.pairs 100000 ⟨[], [], [], S.prices, S.middles⟩ := ⟨h.p1, h.p2, h.lp, h.lm, by simp, by simp, by simp⟩
theorem mend_take {S : Ses} (h : SesOk S) (ed : List PP) (i : Nat) : MI S.pairs 200000 ((S.pairs.take i).foldl (mendStep S.links S.lower ed) ⟨[], [], [], S.prices, S.middles⟩) :=
  (MI.steps (mend0 h)).mono (by have := h.pl; rw [List.length_take]; omega)
/-! edits -/
theorem setEdits_take {L : Tab (Option Int)} {es : List Edit} {i : Nat} {e : Edit} (h : es[i]? = some e) : setEdits L (es.take (i + 1)) = setEdit (setEdits L (es.take i)) e := by
  unfold setEdits; rw [take_foldl h]
theorem setEdits_inv {L : Tab (Option Int)} {a b : Nat} : ∀ {es : List Edit} {s : List Edit × Tab (Option Int)}, Has s.2 a b → Has (es.foldl setEdit s).2 a b
  | [], _, h => h
  | e :: es, s, h => by
    rw [List.foldl_cons]
    exact setEdits_inv (L := L) (has_tput (.inl h))
theorem setEdits_has {L : Tab (Option Int)} {es : List Edit} {a b : Nat} (h : Has L a b) : Has (setEdits L es).2 a b := setEdits_inv (L := L) h
theorem setEdits_len {es : List Edit} : ∀ {s : List Edit × Tab (Option Int)}, (es.foldl setEdit s).1.length = s.1.length + es.length ∧ (es.foldl setEdit s).2.length ≤ s.2.length + es.length := by
  induction es with
  | nil => intro s; simp
  | cons e es ih =>
    intro s
    rw [List.foldl_cons, List.length_cons]
    have h1 := ih (s := setEdit s e)
    have h2 := tput_length s.2 (e.1, e.2.1) e.2.2
    have h3 : (setEdit s e).1.length = s.1.length + 1 := by unfold setEdit; simp
    have h4 : (setEdit s e).2.length ≤ s.2.length + 1 := h2
    omega
theorem fill_pairs (N : Net) (order : List Nat) : ((fillL N order).map fun r => (r.1, r.2.1)) = pairsL N order := by
  unfold fillL
  rw [List.map_map]
  have e : ((fun r : Row => (r.1, r.2.1)) ∘ rowOf (fillPM N order).1 (fillPM N order).2) = id := rfl
  rw [e, List.map_id]
theorem rowsPM_len : ∀ (rows : List Row) (s : PM), (rows.foldl putRow s).1.length ≤ s.1.length + 2 * rows.length ∧ (rows.foldl putRow s).2.length ≤ s.2.length + 2 * rows.length
  | [], s => by simp
  | r :: rows, s => by
    rw [List.foldl_cons, List.length_cons]
    have h1 := rowsPM_len rows (putRow s r)
    have h2 := tput_length s.1 (r.1, r.2.1) r.2.2.1
    have h3 := tput_length (tput s.1 (r.1, r.2.1) r.2.2.1) (r.2.1, r.1) r.2.2.2.1
    have h4 := tput_length s.2 (r.1, r.2.1) r.2.2.2.2.1
    have h5 := tput_length (tput s.2 (r.1, r.2.1) r.2.2.2.2.1) (r.2.1, r.1) r.2.2.2.2.2
    have e1 : (putRow s r).1.length = (tput (tput s.1 (r.1, r.2.1) r.2.2.1) (r.2.1, r.1) r.2.2.2.1).length := rfl
    have e2 : (putRow s r).2.length = (tput (tput s.2 (r.1, r.2.1) r.2.2.2.2.1) (r.2.1, r.1) r.2.2.2.2.2).length := rfl
    omega
end Ov

/-! ## M6 -/
/-! Edits keep the keys. No library. -/
namespace Ov
open T
theorem tput_keys {κ α : Type} [DecidableEq κ] {t : List (κ × α)} {k : κ} (x : α) (h : (tget t k).isSome = true) : (tput t k x).map (·.1) = t.map (·.1) := by
  unfold tput
  rw [tany, if_pos h, List.map_map]
  apply List.map_congr_left
  intro p _
  show (if p.1 = k then (p.1, x) else p).1 = p.1
  split <;> rfl
theorem setEdits_keys' : ∀ {es : List Edit} {s : List Edit × Tab (Option Int)}, (∀ e ∈ es, Has s.2 e.1 e.2.1) → (es.foldl setEdit s).2.map (·.1) = s.2.map (·.1)
  | [], _, _ => rfl
  | e :: es, s, h => by
    have h1 := h e (by simp)
    rw [List.foldl_cons, setEdits_keys' fun d m => has_tput (.inl (h d (List.mem_cons_of_mem _ m)))]
    exact tput_keys _ h1
theorem setEdits_keys {L : Tab (Option Int)} {es : List Edit} (h : ∀ e ∈ es, Has L e.1 e.2.1) : (setEdits L es).2.map (·.1) = L.map (·.1) := setEdits_keys' (s := ([], L)) h
theorem setEdits_length {L : Tab (Option Int)} {es : List Edit} (h : ∀ e ∈ es, Has L e.1 e.2.1) : (setEdits L es).2.length = L.length := by
  have := congrArg List.length (setEdits_keys h)
  rwa [List.length_map, List.length_map] at this
theorem SesOk.links {S : Ses} (h : SesOk S) {L : Tab (Option Int)} {hi : List (List Edit)} (hl : L.length ≤ 100000) : SesOk { S with links := L, history := hi } := ⟨h.pl, hl, h.low, h.wl, h.ws, h.p1, h.p2, h.m1, h.m2, h.lp, h.lm⟩
/-- what an edit asks -/
structure EdOk (S : Ses) (es : List Edit) : Prop where
  ses : SesOk S
  n : es.length ≤ 1000
  ks : ∀ e ∈ es, Has S.links e.1 e.2.1
  h : S.history.length ≤ 1000
/-- the links are links both ways -/
structure NetS (S : Ses) : Prop where
  l : S.links.length ≤ 100000
  ks : ∀ p ∈ S.links.map (·.1), Has S.links p.1 p.2 ∧ Has S.links p.2 p.1
end Ov

/-! ## M7 -/
/-! Walks and least sums. No library. -/
namespace Ov
abbrev Wt := Nat → Nat → Option Int
inductive Walk (w : Wt) : Nat → Nat → Int → Prop where
  | nil (x : Nat) : Walk w x x 0
  | cons {x y z : Nat} {p c : Int} : w x y = some p → Walk w y z c → Walk w x z (p + c)
theorem Walk.cast {w : Wt} {x y : Nat} {c d : Int} (h : Walk w x y c) (e : c = d) : Walk w x y d := e ▸ h
theorem Walk.one {w : Wt} {x y : Nat} {p : Int} (h : w x y = some p) : Walk w x y p := (Walk.cons h (.nil y)).cast (Int.add_zero p)
theorem Walk.trans {w : Wt} {x y z : Nat} {c d : Int} (h : Walk w x y c) (k : Walk w y z d) : Walk w x z (c + d) := by
  induction h with
  | nil x => exact k.cast (by omega)
  | cons e _ ih => exact (Walk.cons e (ih k)).cast (by omega)
/-- the least of what holds -/
structure Least (P : Int → Prop) (d : Option Int) : Prop where
  snd : ∀ c, d = some c → P c
  cmp : ∀ c, P c → ∃ e, d = some e ∧ e ≤ c
theorem Least.uniq {P : Int → Prop} {d e : Option Int} (h : Least P d) (k : Least P e) : d = e := by
  cases d with
  | none =>
    cases e with
    | none => rfl
    | some c =>
      obtain ⟨_, z, _⟩ := h.cmp c (k.snd c rfl)
      cases z
  | some c =>
    obtain ⟨c', z, l⟩ := k.cmp c (h.snd c rfl)
    subst z
    obtain ⟨c2, z2, l2⟩ := h.cmp c' (k.snd c' rfl)
    cases z2
    rw [show c = c' by omega]
theorem Least.of {P Q : Int → Prop} {d : Option Int} (h : Least P d) (h1 : ∀ c, P c → Q c) (h2 : ∀ c, Q c → ∃ e, P e ∧ e ≤ c) : Least Q d :=
  ⟨fun c z => h1 c (h.snd c z), fun c z => by
    obtain ⟨e, p, l⟩ := h2 c z
    obtain ⟨f, q, l2⟩ := h.cmp e p
    exact ⟨f, q, by omega⟩⟩
/-! ### simple paths -/
def Path (w : Wt) : Nat → List Nat → Nat → Int → Prop
  | x, [], z, c => x = z ∧ c = 0
  | x, y :: l, z, c => ∃ p d, w x y = some p ∧ Path w y l z d ∧ c = p + d
theorem Path.walk {w : Wt} : ∀ {l : List Nat} {x z : Nat} {c : Int}, Path w x l z c → Walk w x z c
  | [], _, _, _, ⟨rfl, rfl⟩ => .nil _
  | _ :: _, _, _, _, ⟨p, d, h1, h2, rfl⟩ => .cons h1 h2.walk
theorem Path.nonneg {w : Wt} (hw : ∀ x y p, w x y = some p → 0 ≤ p) : ∀ {l : List Nat} {x z : Nat} {c : Int}, Path w x l z c → 0 ≤ c
  | [], _, _, _, ⟨_, rfl⟩ => by omega
  | _ :: _, _, _, _, ⟨p, d, h1, h2, rfl⟩ => by
    have := hw _ _ _ h1
    have := h2.nonneg hw
    omega
theorem Walk.nonneg {w : Wt} (hw : ∀ x y p, w x y = some p → 0 ≤ p) {x z : Nat} {c : Int} (h : Walk w x z c) : 0 ≤ c := by
  induction h with
  | nil x => omega
  | cons e _ ih => have := hw _ _ _ e; omega
/-- the rest behind a place of a path -/
theorem Path.cut {w : Wt} (hw : ∀ x y p, w x y = some p → 0 < p) : ∀ {l : List Nat} {y z x : Nat} {c : Int}, Path w y l z c → x ∈ y :: l → ∃ l' c', Path w x l' z c' ∧ c' ≤ c ∧ (x :: l').Sublist (y :: l)
  | l, y, z, x, c, h, m => by
    rcases List.mem_cons.mp m with e | m
    · exact ⟨l, c, by rw [e]; exact h, Int.le_refl _, by rw [e]; exact List.Sublist.refl _⟩
    · match l, h, m with
      | v :: l, ⟨p, d, h1, h2, e⟩, m =>
        obtain ⟨l', c', a, b, s⟩ := Path.cut hw h2 m
        have := hw _ _ _ h1
        exact ⟨l', c', a, by omega, s.cons _⟩
theorem Path.simple {w : Wt} (hw : ∀ x y p, w x y = some p → 0 < p) : ∀ {l : List Nat} {x z : Nat} {c : Int}, Path w x l z c → ∃ l' c', Path w x l' z c' ∧ (x :: l').Nodup ∧ c' ≤ c ∧ (c' = c → l' = l)
  | [], x, z, c, h => ⟨[], c, h, by simp, Int.le_refl _, fun _ => rfl⟩
  | y :: l, x, z, c, ⟨p, d, h1, h2, e⟩ => by
    obtain ⟨l', c', a, nd, le, eq⟩ := Path.simple hw h2
    have hp := hw _ _ _ h1
    by_cases m : x ∈ y :: l'
    · obtain ⟨l2, c2, a2, le2, s⟩ := Path.cut hw a m
      exact ⟨l2, c2, a2, s.nodup nd, by omega, fun z => by omega⟩
    · exact ⟨y :: l', p + c', ⟨p, c', h1, a, rfl⟩, List.nodup_cons.mpr ⟨m, nd⟩, by omega, fun z => by rw [eq (by omega)]⟩
theorem Walk.path {w : Wt} {x z : Nat} {c : Int} (h : Walk w x z c) : ∃ l, Path w x l z c := by
  induction h with
  | nil x => exact ⟨[], rfl, rfl⟩
  | cons e _ ih =>
    obtain ⟨l, hl⟩ := ih
    exact ⟨_ :: l, _, _, e, hl, rfl⟩
theorem Walk.simple {w : Wt} (hw : ∀ x y p, w x y = some p → 0 < p) {x z : Nat} {c : Int} (h : Walk w x z c) : ∃ l c', Path w x l z c' ∧ (x :: l).Nodup ∧ c' ≤ c := by
  obtain ⟨l, hl⟩ := h.path
  obtain ⟨l', c', a, nd, le, _⟩ := hl.simple hw
  exact ⟨l', c', a, nd, le⟩
theorem Path.least_nodup {w : Wt} (hw : ∀ x y p, w x y = some p → 0 < p) {l : List Nat} {x z : Nat} {c : Int} (h : Path w x l z c) (hm : ∀ c', Walk w x z c' → c ≤ c') : (x :: l).Nodup := by
  obtain ⟨l', c', a, nd, le, eq⟩ := h.simple hw
  have := hm _ a.walk
  rw [← eq (by omega)]
  exact nd
theorem Path.lt {w : Wt} {n : Nat} (hw : ∀ x y p, w x y = some p → y < n) : ∀ {l : List Nat} {x z : Nat} {c : Int}, Path w x l z c → ∀ y ∈ l, y < n
  | [], _, _, _, _ => by simp
  | v :: l, _, _, _, ⟨p, d, h1, h2, _⟩ => fun y m => by
    rcases List.mem_cons.mp m with e | m
    · rw [e]; exact hw _ _ _ h1
    · exact Path.lt hw h2 y m
/-! ### up and down -/
inductive Up (F : Wt) (r : Nat → Nat) : Nat → Nat → Int → Prop where
  | nil (x : Nat) : Up F r x x 0
  | cons {x y z : Nat} {p c : Int} : r x < r y → F x y = some p → Up F r y z c → Up F r x z (p + c)
def trW (F : Wt) : Wt := fun x y => F y x
section
variable {w F : Wt} {r : Nat → Nat}
theorem Up.cast {x y : Nat} {c d : Int} (h : Up F r x y c) (e : c = d) : Up F r x y d := e ▸ h
theorem Up.snoc {x y z : Nat} {c p : Int} (h : Up F r x y c) (hr : r y < r z) (e : F y z = some p) : Up F r x z (c + p) := by
  induction h with
  | nil x => exact (Up.cons hr e (.nil _)).cast (by omega)
  | cons h1 h2 _ ih => exact (Up.cons h1 h2 (ih hr e)).cast (by omega)
theorem Up.trans {x y z : Nat} {c d : Int} (h : Up F r x y c) (k : Up F r y z d) : Up F r x z (c + d) := by
  induction h with
  | nil x => exact k.cast (by omega)
  | cons h1 h2 _ ih => exact (Up.cons h1 h2 (ih k)).cast (by omega)
theorem Up.le {x y : Nat} {c : Int} (h : Up F r x y c) : r x ≤ r y := by
  induction h with
  | nil x => exact Nat.le_refl _
  | cons h1 _ _ ih => omega
theorem Up.walk {x y : Nat} {c : Int} (hw : ∀ x y p, F x y = some p → Walk w x y p) (h : Up F r x y c) : Walk w x y c := by
  induction h with
  | nil x => exact .nil _
  | cons h1 h2 _ ih => exact (hw _ _ _ h2).trans ih
theorem Up.walkT {x y : Nat} {c : Int} (hw : ∀ x y p, F x y = some p → Walk w x y p) (h : Up (trW F) r x y c) : Walk w y x c := by
  induction h with
  | nil x => exact .nil _
  | cons h1 h2 _ ih => exact (ih.trans (hw _ _ _ h2)).cast (by omega)
theorem Up.nonneg {x y : Nat} {c : Int} (hp : ∀ x y p, F x y = some p → 0 ≤ p) (h : Up F r x y c) : 0 ≤ c := by
  induction h with
  | nil x => omega
  | cons h1 h2 _ ih => have := hp _ _ _ h2; omega
/-- up, then down, for at most c -/
def UD (F : Wt) (r : Nat → Nat) (x z : Nat) (c : Int) : Prop := ∃ p cu cd, Up F r x p cu ∧ Up (trW F) r z p cd ∧ cu + cd ≤ c
structure Filled (w F : Wt) (r : Nat → Nat) : Prop where
  pos : ∀ x y p, F x y = some p → 0 ≤ p
  ne : ∀ x y p, F x y = some p → r x ≠ r y
  tri : ∀ x v y a b, r v < r x → r v < r y → F x v = some a → F v y = some b → x ≠ y → ∃ c, F x y = some c ∧ c ≤ a + b
  link : ∀ x y p, w x y = some p → ∃ c, F x y = some c ∧ c ≤ p
  walk : ∀ x y p, F x y = some p → Walk w x y p
theorem ud_edge (hF : Filled w F r) {x y z : Nat} {e c : Int} (h : F x y = some e) (k : UD F r y z c) : UD F r x z (e + c) := by
  obtain ⟨p, cu, cd, hu, hd, hc⟩ := k
  rcases Nat.lt_or_ge (r x) (r y) with hlt | hge
  · exact ⟨p, e + cu, cd, .cons hlt h hu, hd, by omega⟩
  · have hgt : r y < r x := by have := hF.ne x y e h; omega
    clear hge
    induction hu generalizing x e c with
    | nil y =>
      have := hd.snoc (z := x) (p := e) hgt h
      exact ⟨x, 0, cd + e, .nil x, this, by omega⟩
    | @cons y y1 p q c1 h1 h2 h3 ih =>
      have he := hF.pos _ _ _ h
      have hq := hF.pos _ _ _ h2
      by_cases e1 : x = y1
      · subst e1
        exact ⟨p, c1, cd, h3, hd, by omega⟩
      · obtain ⟨f, hf, hl⟩ := hF.tri x y y1 e q hgt h1 h h2 e1
        rcases Nat.lt_or_ge (r x) (r y1) with g | g
        · exact ⟨p, f + c1, cd, .cons g hf h3, hd, by omega⟩
        · obtain ⟨p', cu', cd', a, b, l⟩ := ih (x := x) (e := f) (c := c1 + cd) hf hd (Int.le_refl _) (by have := hF.ne _ _ _ hf; omega)
          exact ⟨p', cu', cd', a, b, by omega⟩
theorem ud_walk (hF : Filled w F r) {x z : Nat} {c : Int} (h : Walk w x z c) : UD F r x z c := by
  induction h with
  | nil x => exact ⟨x, 0, 0, .nil x, .nil x, by omega⟩
  | cons e _ ih =>
    obtain ⟨f, hf, hl⟩ := hF.link _ _ _ e
    obtain ⟨p, cu, cd, a, b, l⟩ := ud_edge hF hf ih
    exact ⟨p, cu, cd, a, b, by omega⟩
/-- what answers is the least over the tops -/
theorem ud_least (hF : Filled w F r) {x z : Nat} {d : Option Int} (h : Least (fun c => ∃ p cu cd, Up F r x p cu ∧ Up (trW F) r z p cd ∧ cu + cd = c) d) : Least (Walk w x z) d :=
  h.of (fun c ⟨p, cu, cd, a, b, e⟩ => ((a.walk hF.walk).trans (b.walkT hF.walk)).cast e) fun c hc => by
    obtain ⟨p, cu, cd, a, b, l⟩ := ud_walk hF hc
    exact ⟨cu + cd, ⟨p, cu, cd, a, b, rfl⟩, l⟩
end
end Ov

/-! ## M8 -/
/-! The search up: least sums of up paths. No library. -/
namespace Ov
open T
/-- a number told, or none; le: at most -/
def OLe (a : Option Int) (c : Int) : Prop := ∃ d, a = some d ∧ d ≤ c
def rlx (a old : Option Int) : Option Int := match a with
  | some t => if olt t old then some t else old
  | none => old
theorem rlx_or {a old : Option Int} {d : Int} (h : rlx a old = some d) : a = some d ∨ old = some d := by
  cases a with
  | none => exact .inr h
  | some t =>
    unfold rlx at h
    dsimp only at h
    split at h
    · exact .inl h
    · exact .inr h
theorem rlx_old {a old : Option Int} {c : Int} (h : OLe old c) : OLe (rlx a old) c := by
  obtain ⟨d, rfl, l⟩ := h
  cases a with
  | none => exact ⟨d, rfl, l⟩
  | some t =>
    unfold rlx
    dsimp only
    by_cases q : olt t (some d) = true
    · rw [if_pos q]
      have : t < d := of_decide_eq_true q
      exact ⟨t, rfl, by omega⟩
    · rw [if_neg q]; exact ⟨d, rfl, l⟩
theorem rlx_new {a old : Option Int} {c : Int} (h : OLe a c) : OLe (rlx a old) c := by
  obtain ⟨t, rfl, l⟩ := h
  unfold rlx
  dsimp only
  by_cases q : olt t old = true
  · rw [if_pos q]; exact ⟨t, rfl, l⟩
  · rw [if_neg q]
    cases old with
    | none => exact absurd rfl q
    | some d =>
      have : ¬ t < d := fun z => q (decide_eq_true z)
      exact ⟨d, rfl, by omega⟩
def val (s : List Sum) (x : Nat) : Option Int := (s.getD x (none, none)).1
theorem val_step {up : Bool} {s : List Sum} {r : Row} (h : r.2.1 < s.length) (x : Nat) : val (sumStep up s r) x = if x = r.2.1 then rlx (osum (val s r.1) (colOf up r)) (val s r.2.1) else val s x := by
  unfold val sumStep rlx
  cases e : osum (s.getD r.1 (none, none)).1 (colOf up r) with
  | none =>
    dsimp only
    split
    · rename_i z; rw [z]
    · rfl
  | some t =>
    dsimp only
    by_cases q : olt t (s.getD r.2.1 (none, none)).1 = true
    · rw [if_pos q, if_pos q, getD_set h]
      split <;> rfl
    · rw [if_neg q, if_neg q]
      split
      · rename_i z; rw [z]
      · rfl
/-- what the rows tell of the ways up -/
structure RowsUp (rows : List Row) (up : Bool) (F : Wt) (r : Nat → Nat) (n : Nat) : Prop where
  lt : ∀ x ∈ rows, x.1 < n ∧ x.2.1 < n
  upw : ∀ x ∈ rows, r x.1 < r x.2.1
  srt : rows.Pairwise fun a b => r a.1 ≤ r b.1
  snd : ∀ x ∈ rows, ∀ p, colOf up x = some p → F x.1 x.2.1 = some p
  cmp : ∀ a b p, r a < r b → F a b = some p → ∃ x ∈ rows, x.1 = a ∧ x.2.1 = b ∧ colOf up x = some p
theorem osum_some {a b : Option Int} {c : Int} (h : osum a b = some c) : ∃ x y, a = some x ∧ b = some y ∧ x + y = c := by
  cases a <;> cases b <;> simp [osum] at h
  exact ⟨_, _, rfl, rfl, h⟩
theorem sums_len' (up : Bool) (rows : List Row) : ∀ s : List Sum, (rows.foldl (sumStep up) s).length = s.length := by
  induction rows with
  | nil => intro s; rfl
  | cons r rows ih =>
    intro s
    rw [List.foldl_cons, ih]
    unfold sumStep
    split
    · split
      · rw [List.length_set]
      · rfl
    · rfl
theorem sums_inv {up : Bool} {F : Wt} {r : Nat → Nat} {n p : Nat} : ∀ (post pre : List Row) (s : List Sum), RowsUp (pre ++ post) up F r n → s.length = n →
    (∀ x d, val s x = some d → Up F r p x d) → OLe (val s p) 0 → (∀ e ∈ pre, ∀ d c, val s e.1 = some d → colOf up e = some c → OLe (val s e.2.1) (d + c)) →
    (∀ x d, val (post.foldl (sumStep up) s) x = some d → Up F r p x d) ∧ OLe (val (post.foldl (sumStep up) s) p) 0 ∧ (∀ e ∈ pre ++ post, ∀ d c, val (post.foldl (sumStep up) s) e.1 = some d → colOf up e = some c → OLe (val (post.foldl (sumStep up) s) e.2.1) (d + c))
  | [], pre, s, hR, hl, h1, h2, h3 => ⟨h1, h2, by rw [List.append_nil]; exact h3⟩
  | q :: post, pre, s, hR, hl, h1, h2, h3 => by
    have hq : q ∈ pre ++ q :: post := by simp
    have hql := hR.lt q hq
    have hqu := hR.upw q hq
    have hv := fun x => val_step (up := up) (s := s) (r := q) (by rw [hl]; exact hql.2) x
    rw [List.foldl_cons]
    have e : pre ++ q :: post = (pre ++ [q]) ++ post := by simp
    rw [e] at hR ⊢
    have hsl : (sumStep up s q).length = n := by
      have := sums_len' up [q] s
      rw [← hl]; exact this
    have mono : ∀ x c, OLe (val s x) c → OLe (val (sumStep up s q) x) c := fun x c h => by
      rw [hv]
      split
      · rename_i z; rw [z] at h; exact rlx_old h
      · exact h
    refine sums_inv post (pre ++ [q]) (sumStep up s q) hR hsl (fun x d hd => ?_) (mono _ _ h2) (fun e he d c hd hc => ?_)
    · rw [hv] at hd
      split at hd
      · rename_i z
        rcases rlx_or hd with z2 | z2
        · obtain ⟨a, b, ha, hb, hab⟩ := osum_some z2
          rw [z]
          exact ((h1 _ _ ha).snoc hqu (hR.snd q (by simp) b hb)).cast hab
        · rw [z]; exact h1 _ _ z2
      · exact h1 _ _ hd
    · have hle : r e.1 ≤ r q.1 := by
        rcases List.mem_append.mp he with m | m
        · have := (List.pairwise_append.mp hR.srt).1
          exact (List.pairwise_append.mp this).2.2 e m q (by simp)
        · obtain rfl : e = q := by simpa using m
          exact Nat.le_refl _
      have hne : e.1 ≠ q.2.1 := fun z => by rw [z] at hle; omega
      rw [hv, if_neg hne] at hd
      rcases List.mem_append.mp he with m | m
      · exact mono _ _ (h3 e m d c hd hc)
      · obtain rfl : e = q := by simpa using m
        rw [hv, if_pos rfl]
        exact rlx_new ⟨d + c, by rw [hd, hc]; rfl, Int.le_refl _⟩
theorem val_init {n p : Nat} (hp : p < n) (x : Nat) : val ((List.replicate n ((none, none) : Sum)).set p (some 0, none)) x = if x = p then some 0 else none := by
  unfold val
  rw [getD_set (by simp; exact hp)]
  split
  · rfl
  · rw [List.getD_eq_getElem?_getD, List.getElem?_replicate]
    split <;> rfl
/-- the sums of the search are the least sums of the ways up -/
theorem sums_least {up : Bool} {F : Wt} {r : Nat → Nat} {n p : Nat} {rows : List Row} (hR : RowsUp rows up F r n) (hp : p < n) (x : Nat) : Least (Up F r p x) (val (sumsOver n rows p up) x) := by
  obtain ⟨h1, h2, h3⟩ := sums_inv (n := n) (p := p) rows [] ((List.replicate n (none, none)).set p (some 0, none)) hR (by simp) (fun x d h => by
    rw [val_init hp] at h
    split at h
    · rename_i z; cases h; rw [z]; exact .nil p
    · cases h) ⟨0, by rw [val_init hp, if_pos rfl], Int.le_refl _⟩ (fun _ m => by simp at m)
  have key : ∀ {y z : Nat} {c : Int}, Up F r y z c → ∀ d, OLe (val (sumsOver n rows p up) y) d → OLe (val (sumsOver n rows p up) z) (d + c) := by
    intro y z c h
    induction h with
    | nil x => intro d h; rw [Int.add_zero]; exact h
    | @cons x y z q c a b _ ih =>
      intro d hd
      obtain ⟨e, he, l⟩ := hd
      obtain ⟨w, m, rfl, rfl, hw⟩ := hR.cmp _ _ _ a b
      have := h3 w (by simpa using m) e q he hw
      obtain ⟨f, hf, l2⟩ := ih (e + q) this
      exact ⟨f, hf, by omega⟩
  refine ⟨fun c hc => h1 x c hc, fun c hc => ?_⟩
  obtain ⟨d, hd, l⟩ := key hc 0 h2
  exact ⟨d, hd, by omega⟩
/-! ### meeting -/
theorem meet_inv {ups downs : List Sum} : ∀ (xs : List Nat) (b : Sum), (∀ t, (xs.foldl (meetStep ups downs) b).1 = some t → b.1 = some t ∨ ∃ p ∈ xs, osum (val ups p) (val downs p) = some t) ∧ (∀ c, OLe b.1 c → OLe (xs.foldl (meetStep ups downs) b).1 c) ∧ ∀ p ∈ xs, ∀ t, osum (val ups p) (val downs p) = some t → OLe (xs.foldl (meetStep ups downs) b).1 t
  | [], b => ⟨fun t h => .inl h, fun _ h => h, by simp⟩
  | x :: xs, b => by
    rw [List.foldl_cons]
    obtain ⟨i1, i2, i3⟩ := meet_inv (ups := ups) (downs := downs) xs (meetStep ups downs b x)
    have e : (meetStep ups downs b x).1 = rlx (osum (val ups x) (val downs x)) b.1 := by
      unfold meetStep rlx val
      cases osum (ups.getD x (none, none)).1 (downs.getD x (none, none)).1 with
      | none => rfl
      | some t =>
        dsimp only
        split <;> rfl
    refine ⟨fun t h => ?_, fun c h => i2 c (by rw [e]; exact rlx_old h), fun p m t ht => ?_⟩
    · rcases i1 t h with z | ⟨p, m, z⟩
      · rw [e] at z
        rcases rlx_or z with z | z
        · exact .inr ⟨x, by simp, z⟩
        · exact .inl z
      · exact .inr ⟨p, List.mem_cons_of_mem _ m, z⟩
    · rcases List.mem_cons.mp m with z | m
      · subst z
        exact i2 t (by rw [e]; exact rlx_new ⟨t, ht, Int.le_refl _⟩)
      · exact i3 p m t ht
/-- the answer is the least sum over a top -/
theorem answer_least {F : Wt} {r : Nat → Nat} {order : List Nat} {rows : List Row} {s t : Nat} (ho : ∀ p, p < order.length → p ∈ order) (hlt : ∀ p ∈ order, p < order.length) (hU : RowsUp rows true F r order.length) (hD : RowsUp rows false (trW F) r order.length) (hs : s < order.length) (ht : t < order.length) :
    Least (fun c => ∃ p cu cd, Up F r s p cu ∧ Up (trW F) r t p cd ∧ cu + cd = c) (answerL order rows s t).1 := by
  obtain ⟨i1, _, i3⟩ := meet_inv (ups := sumsOver order.length rows s true) (downs := sumsOver order.length rows t false) order (none, none)
  have lu := fun x => sums_least hU hs x
  have ld := fun x => sums_least hD ht x
  have upl : ∀ {G : Wt} {a b : Nat} {c : Int}, (∀ x y q, r x < r y → G x y = some q → y < order.length) → a < order.length → Up G r a b c → b < order.length := fun {G a b c} hG ha h => by
    induction h with
    | nil x => exact ha
    | cons h1 h2 _ ih => exact ih (hG _ _ _ h1 h2)
  refine ⟨fun c h => ?_, fun c ⟨p, cu, cd, hu, hd, e⟩ => ?_⟩
  · rcases i1 c h with z | ⟨p, m, z⟩
    · cases z
    · obtain ⟨x, y, hx, hy, e⟩ := osum_some z
      exact ⟨p, x, y, (lu p).snd x hx, (ld p).snd y hy, e⟩
  · have hp : p < order.length := upl (fun x y q h1 h2 => by
      obtain ⟨w, m, _, rfl, _⟩ := hU.cmp _ _ _ h1 h2
      exact (hU.lt w m).2) hs hu
    obtain ⟨x, hx, l1⟩ := (lu p).cmp cu hu
    obtain ⟨y, hy, l2⟩ := (ld p).cmp cd hd
    obtain ⟨f, hf, l3⟩ := i3 p (ho p hp) (x + y) (by rw [hx, hy]; rfl)
    exact ⟨f, hf, by omega⟩
end Ov

/-! ## M9 -/
/-! Papers (Bellman and Ford). No library. -/
namespace Ov
open T
def oval (s : List (Option Int)) (x : Nat) : Option Int := s.getD x none
def oadd (a : Option Int) (q : Int) : Option Int := osum a (some q)
theorem oval_relax {s : List (Option Int)} {w : Nat × Nat × Int} (h : w.2.1 < s.length) (x : Nat) : oval (relax s w) x = if x = w.2.1 then rlx (oadd (oval s w.1) w.2.2) (oval s w.2.1) else oval s x := by
  unfold oval relax rlx oadd
  cases e : s.getD w.1 none with
  | none =>
    dsimp only [osum]
    split
    · rename_i z; rw [z]
    · rfl
  | some t =>
    dsimp only [osum]
    by_cases q : olt (t + w.2.2) (s.getD w.2.1 none) = true
    · rw [if_pos q, if_pos q, getD_set h]
    · rw [if_neg q, if_neg q]
      split
      · rename_i z; rw [z]
      · rfl
theorem relax_length (s : List (Option Int)) (w : Nat × Nat × Int) : (relax s w).length = s.length := by
  unfold relax
  split
  · split
    · rw [List.length_set]
    · rfl
  · rfl
/-- one pass -/
theorem pass_inv {W : Wt} {n s0 : Nat} : ∀ (ws : List (Nat × Nat × Int)) (s : List (Option Int)), s.length = n → (∀ w ∈ ws, w.2.1 < n ∧ W w.1 w.2.1 = some w.2.2) → (∀ x d, oval s x = some d → Walk W s0 x d) →
    (ws.foldl relax s).length = n ∧ (∀ x d, oval (ws.foldl relax s) x = some d → Walk W s0 x d) ∧ (∀ x c, OLe (oval s x) c → OLe (oval (ws.foldl relax s) x) c) ∧ ∀ w ∈ ws, ∀ c, OLe (oval s w.1) c → OLe (oval (ws.foldl relax s) w.2.1) (c + w.2.2)
  | [], s, hl, _, h1 => ⟨hl, h1, fun _ _ h => h, by simp⟩
  | w :: ws, s, hl, hw, h1 => by
    have hw1 := hw w (by simp)
    have hv := fun x => oval_relax (s := s) (w := w) (by rw [hl]; exact hw1.1) x
    have mono : ∀ x c, OLe (oval s x) c → OLe (oval (relax s w) x) c := fun x c h => by
      rw [hv]
      split
      · rename_i z; rw [z] at h; exact rlx_old h
      · exact h
    obtain ⟨i0, i1, i2, i3⟩ := pass_inv (s0 := s0) ws (relax s w) (by rw [relax_length, hl]) (fun v m => hw v (List.mem_cons_of_mem _ m)) fun x d hd => by
      rw [hv] at hd
      split at hd
      · rename_i z
        rcases rlx_or hd with z2 | z2
        · obtain ⟨a, b, ha, hb, e⟩ := osum_some z2
          cases hb
          rw [z]
          exact ((h1 _ _ ha).trans (Walk.one hw1.2)).cast e
        · rw [z]; exact h1 _ _ z2
      · exact h1 _ _ hd
    rw [List.foldl_cons]
    refine ⟨i0, i1, fun x c h => i2 x c (mono x c h), fun v m c h => ?_⟩
    rcases List.mem_cons.mp m with z | m
    · subst z
      refine i2 _ _ ?_
      rw [hv, if_pos rfl]
      obtain ⟨d, hd, l⟩ := h
      exact rlx_new ⟨d + v.2.2, by rw [hd]; rfl, by omega⟩
    · exact i3 v m c (mono _ _ h)
def rounds (ws : List (Nat × Nat × Int)) (s : List (Option Int)) : Nat → List (Option Int)
  | 0 => s
  | k + 1 => ws.foldl relax (rounds ws s k)
theorem rounds_range (ws : List (Nat × Nat × Int)) (s : List (Option Int)) (k : Nat) : (List.range k).foldl (fun s _ => ws.foldl relax s) s = rounds ws s k := by
  induction k with
  | zero => rfl
  | succ k ih => rw [List.range_succ, List.foldl_append, ih]; rfl
theorem rounds_inv {W : Wt} {n s0 : Nat} {ws : List (Nat × Nat × Int)} {s : List (Option Int)} (hl : s.length = n) (hw : ∀ w ∈ ws, w.2.1 < n ∧ W w.1 w.2.1 = some w.2.2) (hc : ∀ a b q, W a b = some q → (a, b, q) ∈ ws) (h1 : ∀ x d, oval s x = some d → Walk W s0 x d) :
    (∀ k, (rounds ws s k).length = n ∧ ∀ x d, oval (rounds ws s k) x = some d → Walk W s0 x d) ∧ (∀ k j x c, OLe (oval (rounds ws s k) x) c → OLe (oval (rounds ws s (k + j)) x) c) ∧ ∀ (l : List Nat) (k x z : Nat) (c d : Int), Path W x l z c → OLe (oval (rounds ws s k) x) d → OLe (oval (rounds ws s (k + l.length)) z) (d + c) := by
  have a : ∀ k, (rounds ws s k).length = n ∧ ∀ x d, oval (rounds ws s k) x = some d → Walk W s0 x d := fun k => by
    induction k with
    | zero => exact ⟨hl, h1⟩
    | succ k ih =>
      obtain ⟨i0, i1, _, _⟩ := pass_inv (s0 := s0) ws (rounds ws s k) ih.1 hw ih.2
      exact ⟨i0, i1⟩
  have b : ∀ k j x c, OLe (oval (rounds ws s k) x) c → OLe (oval (rounds ws s (k + j)) x) c := fun k j x c h => by
    induction j with
    | zero => exact h
    | succ j ih =>
      obtain ⟨_, _, i2, _⟩ := pass_inv (s0 := s0) ws (rounds ws s (k + j)) (a _).1 hw (a _).2
      exact i2 x c ih
  refine ⟨a, b, fun l => ?_⟩
  induction l with
  | nil =>
    rintro k x z c d ⟨rfl, rfl⟩ h
    rw [Int.add_zero]
    exact h
  | cons y l ih =>
    rintro k x z c d ⟨q, c', h1', h2', rfl⟩ h
    obtain ⟨_, _, _, i3⟩ := pass_inv (s0 := s0) ws (rounds ws s k) (a _).1 hw (a _).2
    have := i3 _ (hc _ _ _ h1') d h
    have := ih (k + 1) y z c' (d + q) h2' this
    rw [List.length_cons, show k + (l.length + 1) = k + 1 + l.length by omega, show d + (q + c') = d + q + c' by omega]
    exact this
/-- the paper tells the least sums -/
theorem paper_least {W : Wt} {N : Net} {p : Nat} (hp : p < N.1) (hpos : ∀ a b q, W a b = some q → 0 < q) (hlt : ∀ a b q, W a b = some q → b < N.1) (hw : ∀ w ∈ openWays N.2, W w.1 w.2.1 = some w.2.2) (hc : ∀ a b q, W a b = some q → (a, b, q) ∈ openWays N.2) (x : Nat) : Least (Walk W p x) (oval (paperL N p) x) := by
  have hi : ∀ x, oval ((List.replicate N.1 (none : Option Int)).set p (some 0)) x = if x = p then some 0 else none := fun x => by
    unfold oval
    rw [getD_set (by simp; exact hp)]
    split
    · rfl
    · rw [List.getD_eq_getElem?_getD, List.getElem?_replicate]
      split <;> rfl
  obtain ⟨a, b, c⟩ := rounds_inv (W := W) (n := N.1) (s0 := p) (ws := openWays N.2) (s := (List.replicate N.1 none).set p (some 0)) (by simp) (fun w m => ⟨hlt _ _ _ (hw w m), hw w m⟩) hc fun x d h => by
    rw [hi] at h
    split at h
    · rename_i z; cases h; rw [z]; exact .nil p
    · cases h
  unfold paperL
  rw [rounds_range]
  refine ⟨fun d hd => (a _).2 x d hd, fun d hd => ?_⟩
  obtain ⟨l, c', hP, nd, le⟩ := hd.simple hpos
  have hlen : (p :: l).length ≤ N.1 := nodup_len nd fun k m => by
    rcases List.mem_cons.mp m with z | m
    · rw [z]; exact hp
    · exact hP.lt hlt k m
  rw [List.length_cons] at hlen
  have h1 := c l 0 p x c' 0 hP ⟨0, by show oval ((List.replicate N.1 none).set p (some 0)) p = some 0; rw [hi, if_pos rfl], Int.le_refl _⟩
  have h2 := b (0 + l.length) (N.1 - (0 + l.length)) x _ h1
  rw [show 0 + l.length + (N.1 - (0 + l.length)) = N.1 by omega] at h2
  obtain ⟨e, he, l2⟩ := h2
  exact ⟨e, he, by omega⟩
end Ov

/-! ## M10 -/
/-! The law's own sums (Floyd and Warshall). No library. -/
namespace Ov
open T
theorem tget_fwStep {m a b : Nat} {t : Tab Int} (j : PP) : tget (fwStep m a t b) j = if j = (a, b) then rlx (osum (tget t (a, m)) (tget t (m, b))) (tget t (a, b)) else tget t j := by
  unfold fwStep rlx
  cases e1 : tget t (a, m) with
  | none =>
    simp only [osum]
    split
    · rename_i z; rw [z]
    · rfl
  | some x =>
    cases e2 : tget t (m, b) with
    | none =>
      simp only [osum]
      split
      · rename_i z; rw [z]
      · rfl
    | some y =>
      simp only [osum]
      by_cases q : olt (x + y) (tget t (a, b)) = true
      · rw [if_pos q, if_pos q, tget_tput]
      · rw [if_neg q, if_neg q]
        split
        · rename_i z; rw [z]
        · rfl
/-- what a change of the table keeps -/
structure FwOk (W : Wt) (t t' : Tab Int) : Prop where
  snd : (∀ x y d, tget t (x, y) = some d → Walk W x y d) → ∀ x y d, tget t' (x, y) = some d → Walk W x y d
  mono : ∀ j c, OLe (tget t j) c → OLe (tget t' j) c
theorem FwOk.refl (W : Wt) (t : Tab Int) : FwOk W t t := ⟨fun h => h, fun _ _ h => h⟩
theorem FwOk.trans {W : Wt} {t t' t2 : Tab Int} (h : FwOk W t t') (k : FwOk W t' t2) : FwOk W t t2 := ⟨fun z => k.snd (h.snd z), fun j c z => k.mono j c (h.mono j c z)⟩
theorem fwStep_ok (W : Wt) (m a : Nat) (t : Tab Int) (b : Nat) : FwOk W t (fwStep m a t b) := ⟨fun h x y d z => by
  rw [tget_fwStep] at z
  split at z
  · rename_i e
    cases e
    rcases rlx_or z with z | z
    · obtain ⟨p, q, hp, hq, e⟩ := osum_some z
      exact ((h _ _ _ hp).trans (h _ _ _ hq)).cast e
    · exact h _ _ _ z
  · exact h _ _ _ z, fun j c z => by
  rw [tget_fwStep]
  split
  · rename_i e; rw [e] at z; exact rlx_old z
  · exact z⟩
theorem fwStep_new {m a b : Nat} {t : Tab Int} {c d : Int} (h1 : OLe (tget t (a, m)) c) (h2 : OLe (tget t (m, b)) d) : OLe (tget (fwStep m a t b) (a, b)) (c + d) := by
  rw [tget_fwStep, if_pos rfl]
  obtain ⟨x, hx, l1⟩ := h1
  obtain ⟨y, hy, l2⟩ := h2
  exact rlx_new ⟨x + y, by rw [hx, hy]; rfl, by omega⟩
theorem fwRow_ok (W : Wt) (m a : Nat) : ∀ (bs : List Nat) (t : Tab Int), FwOk W t (bs.foldl (fwStep m a) t) ∧ ∀ b ∈ bs, ∀ c d, OLe (tget t (a, m)) c → OLe (tget t (m, b)) d → OLe (tget (bs.foldl (fwStep m a) t) (a, b)) (c + d)
  | [], t => ⟨.refl W t, by simp⟩
  | x :: bs, t => by
    obtain ⟨i1, i2⟩ := fwRow_ok W m a bs (fwStep m a t x)
    have s := fwStep_ok W m a t x
    rw [List.foldl_cons]
    refine ⟨s.trans i1, fun b hb c d h1 h2 => ?_⟩
    rcases List.mem_cons.mp hb with e | hb
    · subst e; exact i1.mono _ _ (fwStep_new h1 h2)
    · exact i2 b hb c d (s.mono _ _ h1) (s.mono _ _ h2)
theorem fwAll_ok (W : Wt) (n m : Nat) : ∀ (as : List Nat) (t : Tab Int), FwOk W t (as.foldl (fwRow n m) t) ∧ ∀ a ∈ as, ∀ b, b < n → ∀ c d, OLe (tget t (a, m)) c → OLe (tget t (m, b)) d → OLe (tget (as.foldl (fwRow n m) t) (a, b)) (c + d)
  | [], t => ⟨.refl W t, by simp⟩
  | x :: as, t => by
    obtain ⟨r1, r2⟩ := fwRow_ok W m x (List.range n) t
    obtain ⟨i1, i2⟩ := fwAll_ok W n m as (fwRow n m t x)
    rw [List.foldl_cons]
    refine ⟨FwOk.trans r1 i1, fun a ha b hb c d h1 h2 => ?_⟩
    rcases List.mem_cons.mp ha with e | ha
    · subst e; exact i1.mono _ _ (r2 b (List.mem_range.mpr hb) c d h1 h2)
    · exact i2 a ha b hb c d (r1.mono _ _ h1) (r1.mono _ _ h2)
/-- over places below m -/
def Via (W : Wt) : Nat → Nat → Nat → Int → Prop
  | 0, a, b, c => (a = b ∧ c = 0) ∨ W a b = some c
  | m + 1, a, b, c => Via W m a b c ∨ ∃ c1 c2, Via W m a m c1 ∧ Via W m m b c2 ∧ c = c1 + c2
section
variable {W : Wt} (hp : ∀ a b q, W a b = some q → 0 < q)
include hp
theorem Via.nonneg : ∀ {m a b : Nat} {c : Int}, Via W m a b c → 0 ≤ c
  | 0, _, _, _, h => by
    rcases h with ⟨_, rfl⟩ | h
    · omega
    · have := hp _ _ _ h; omega
  | m + 1, _, _, _, h => by
    rcases h with h | ⟨c1, c2, h1, h2, rfl⟩
    · exact Via.nonneg h
    · have := Via.nonneg h1
      have := Via.nonneg h2
      omega
theorem Via.join : ∀ {m a u b : Nat} {c d : Int}, u < m → Via W m a u c → Via W m u b d → ∃ e, Via W m a b e ∧ e ≤ c + d
  | 0, _, _, _, _, _, h, _, _ => absurd h (by omega)
  | m + 1, a, u, b, c, d, hu, h1, h2 => by
    by_cases e : u = m
    · subst e
      have g1 : ∃ c', Via W u a u c' ∧ c' ≤ c := by
        rcases h1 with h | ⟨c1, c2, x, y, rfl⟩
        · exact ⟨c, h, Int.le_refl _⟩
        · have := Via.nonneg hp y; exact ⟨c1, x, by omega⟩
      have g2 : ∃ d', Via W u u b d' ∧ d' ≤ d := by
        rcases h2 with h | ⟨c1, c2, x, y, rfl⟩
        · exact ⟨d, h, Int.le_refl _⟩
        · have := Via.nonneg hp x; exact ⟨c2, y, by omega⟩
      obtain ⟨c', x, l1⟩ := g1
      obtain ⟨d', y, l2⟩ := g2
      exact ⟨c' + d', .inr ⟨c', d', x, y, rfl⟩, by omega⟩
    · have hum : u < m := by omega
      rcases h1 with h1 | ⟨c1, c2, x1, y1, rfl⟩
      · rcases h2 with h2 | ⟨d1, d2, x2, y2, rfl⟩
        · obtain ⟨f, hf, l⟩ := Via.join hum h1 h2
          exact ⟨f, .inl hf, l⟩
        · obtain ⟨f, hf, l⟩ := Via.join hum h1 x2
          exact ⟨f + d2, .inr ⟨f, d2, hf, y2, rfl⟩, by omega⟩
      · rcases h2 with h2 | ⟨d1, d2, x2, y2, rfl⟩
        · obtain ⟨f, hf, l⟩ := Via.join hum y1 h2
          exact ⟨c1 + f, .inr ⟨c1, f, x1, hf, rfl⟩, by omega⟩
        · have := Via.nonneg hp y1
          have := Via.nonneg hp x2
          exact ⟨c1 + d2, .inr ⟨c1, d2, x1, y2, rfl⟩, by omega⟩
theorem Via.base {a b : Nat} {c : Int} (h : Via W 0 a b c) : ∀ m, Via W m a b c
  | 0 => h
  | m + 1 => .inl (Via.base h m)
theorem Via.walk {n : Nat} (hl : ∀ a b q, W a b = some q → b < n) {x z : Nat} {c : Int} (h : Walk W x z c) : ∃ e, Via W n x z e ∧ e ≤ c := by
  induction h with
  | nil x => exact ⟨0, Via.base hp (.inl ⟨rfl, rfl⟩) n, Int.le_refl _⟩
  | cons h1 _ ih =>
    obtain ⟨e, he, l⟩ := ih
    obtain ⟨f, hf, l2⟩ := Via.join hp (hl _ _ _ h1) (Via.base hp (.inr h1) n) he
    exact ⟨f, hf, by omega⟩
end
theorem fw_inv {W : Wt} {n : Nat} {t : Tab Int} (h0 : ∀ a b c, a < n → b < n → Via W 0 a b c → OLe (tget t (a, b)) c) : ∀ m, m ≤ n → FwOk W t ((List.range m).foldl (fwAll n) t) ∧ ∀ a b c, a < n → b < n → Via W m a b c → OLe (tget ((List.range m).foldl (fwAll n) t) (a, b)) c
  | 0, _ => ⟨.refl W t, h0⟩
  | m + 1, hm => by
    obtain ⟨i1, i2⟩ := fw_inv h0 m (by omega)
    obtain ⟨r1, r2⟩ := fwAll_ok W n m (List.range n) ((List.range m).foldl (fwAll n) t)
    rw [List.range_succ, List.foldl_append]
    refine ⟨i1.trans r1, fun a b c ha hb h => ?_⟩
    rcases h with h | ⟨c1, c2, h1, h2, rfl⟩
    · exact r1.mono _ _ (i2 a b c ha hb h)
    · exact r2 a (List.mem_range.mpr ha) b hb c1 c2 (i2 a m c1 ha (by omega) h1) (i2 m b c2 (by omega) hb h2)
theorem diag_get (n : Nat) (t : Tab Int) (j : PP) : ∀ k, tget ((List.range k).foldl (fun t a => tput t (a, a) 0) t) j = if j.1 = j.2 ∧ j.1 < k then some 0 else tget t j
  | 0 => by simp
  | k + 1 => by
    rw [List.range_succ, List.foldl_append, List.foldl_cons, List.foldl_nil, tget_tput, diag_get n t j k]
    obtain ⟨a, b⟩ := j
    by_cases e : (a, b) = (k, k)
    · cases e; simp
    · rw [if_neg e]
      by_cases e2 : a = b ∧ a < k
      · rw [if_pos e2, if_pos ⟨e2.1, by omega⟩]
      · rw [if_neg e2, if_neg]
        rintro ⟨h1, h2⟩
        have h1 : a = b := h1
        have h2 : a < k + 1 := h2
        subst h1
        by_cases e3 : a = k
        · exact e (by rw [e3])
        · exact e2 ⟨rfl, by omega⟩
/-- the law's sums are the least sums -/
theorem lawSums_least {W : Wt} {N : Net} (hpos : ∀ a b q, W a b = some q → 0 < q) (hlt : ∀ a b q, W a b = some q → b < N.1) (hne : ∀ a b q, W a b = some q → a ≠ b) (hW : ∀ a b, tget (lawPrices N.2) (a, b) = W a b) {x z : Nat} (hx : x < N.1) (hz : z < N.1) : Least (Walk W x z) (tget (lawSums N) (x, z)) := by
  have hd := fun j => diag_get N.1 (lawPrices N.2) j N.1
  obtain ⟨i1, i2⟩ := fw_inv (W := W) (n := N.1) (t := (List.range N.1).foldl (fun t a => tput t (a, a) 0) (lawPrices N.2)) (fun a b c ha hb h => by
    rw [hd]
    rcases h with ⟨rfl, rfl⟩ | h
    · rw [if_pos ⟨rfl, ha⟩]; exact ⟨0, rfl, Int.le_refl _⟩
    · rw [if_neg fun q => hne _ _ _ h q.1, hW]; exact ⟨c, h, Int.le_refl _⟩) N.1 (Nat.le_refl _)
  refine ⟨fun c h => i1.snd (fun a b d h => ?_) x z c h, fun c h => ?_⟩
  · rw [hd] at h
    split at h
    · rename_i q
      cases h
      have q1 : a = b := q.1
      rw [q1]; exact .nil b
    · rw [hW] at h; exact Walk.one h
  · obtain ⟨e, he, l⟩ := Via.walk hpos hlt h
    obtain ⟨f, hf, l2⟩ := i2 x z e hx hz he
    exact ⟨f, hf, by omega⟩
end Ov

/-! ## M11 -/
/-! The filling: what each price is. No library. -/
namespace Ov
open T
theorem bw_step (P : Tab (Option Int)) (x y w : Nat) (s : Sum) : (bwStep P x y s w).1 = rlx (osum (gp P x w) (gp P w y)) s.1 := by
  unfold bwStep rlx
  cases osum (gp P x w) (gp P w y) with
  | none => rfl
  | some p =>
    dsimp only
    split <;> rfl
theorem bw_inv {P : Tab (Option Int)} {x y : Nat} : ∀ (ws : List Nat) (s : Sum), (∀ c, OLe s.1 c → OLe (ws.foldl (bwStep P x y) s).1 c) ∧ (∀ w ∈ ws, ∀ c, osum (gp P x w) (gp P w y) = some c → OLe (ws.foldl (bwStep P x y) s).1 c) ∧ ((ws.foldl (bwStep P x y) s) = s ∨ ∃ w ∈ ws, ∃ c, (ws.foldl (bwStep P x y) s) = (some c, some w) ∧ osum (gp P x w) (gp P w y) = some c)
  | [], s => ⟨fun _ h => h, by simp, .inl rfl⟩
  | w :: ws, s => by
    obtain ⟨i1, i2, i3⟩ := bw_inv (P := P) (x := x) (y := y) ws (bwStep P x y s w)
    rw [List.foldl_cons]
    refine ⟨fun c h => i1 c (by rw [bw_step]; exact rlx_old h), fun v m c h => ?_, ?_⟩
    · rcases List.mem_cons.mp m with e | m
      · subst e; exact i1 c (by rw [bw_step]; exact rlx_new ⟨c, h, Int.le_refl _⟩)
      · exact i2 v m c h
    · rcases i3 with e | ⟨v, m, c, e, h⟩
      · rw [e]
        unfold bwStep
        cases q : osum (gp P x w) (gp P w y) with
        | none => exact .inl rfl
        | some p =>
          dsimp only
          split
          · exact .inr ⟨w, by simp, p, rfl, q⟩
          · exact .inl rfl
      · exact .inr ⟨v, List.mem_cons_of_mem _ m, c, e, h⟩
/-- the best way: by the link, or over one of the places -/
theorem bw_spec (L P : Tab (Option Int)) (ws : List Nat) (x y : Nat) : (∀ c, OLe (gp L x y) c → OLe (bestWay L P ws x y).1 c) ∧ (∀ w ∈ ws, ∀ c, osum (gp P x w) (gp P w y) = some c → OLe (bestWay L P ws x y).1 c) ∧ (bestWay L P ws x y = (gp L x y, none) ∨ ∃ w ∈ ws, ∃ c, bestWay L P ws x y = (some c, some w) ∧ osum (gp P x w) (gp P w y) = some c) :=
  bw_inv ws (gp L x y, none)
/-- it reads only the ways to and from the places -/
theorem bw_congr {L P Q : Tab (Option Int)} {x y : Nat} : ∀ {ws : List Nat}, (∀ w ∈ ws, gp P x w = gp Q x w ∧ gp P w y = gp Q w y) → bestWay L P ws x y = bestWay L Q ws x y := by
  intro ws h
  unfold bestWay
  generalize (gp L x y, (none : Option Nat)) = s
  induction ws generalizing s with
  | nil => rfl
  | cons w ws ih =>
    rw [List.foldl_cons, List.foldl_cons]
    have hw := h w (by simp)
    have e : bwStep P x y s w = bwStep Q x y s w := by unfold bwStep; rw [hw.1, hw.2]
    rw [e]
    exact ih (fun v m => h v (List.mem_cons_of_mem _ m)) _
theorem gp_tput (t : Tab (Option Int)) (k : PP) (v : Option Int) (x y : Nat) : gp (tput t k v) x y = if (x, y) = k then v else gp t x y := by
  unfold gp; rw [tget_tput]; split <;> rfl
theorem gm_tput (t : Tab (Option Nat)) (k : PP) (v : Option Nat) (x y : Nat) : gm (tput t k v) x y = if (x, y) = k then v else gm t x y := by
  unfold gm; rw [tget_tput]; split <;> rfl
structure FoundOk (found : List PP) (low : Tab (List Nat)) : Prop where
  nd : found.Nodup
  asy : ∀ a b, (a, b) ∈ found → (b, a) ∉ found
  bef : ∀ i f s, found[i]? = some (f, s) → ∀ w ∈ lows low (f, s), (w, f) ∈ found.take i ∧ (w, s) ∈ found.take i
/-- the price and the middle of both ways of a pair are the best ones -/
structure FixAt (L : Tab (Option Int)) (low : Tab (List Nat)) (s : PM) (f x : Nat) : Prop where
  p1 : gp s.1 f x = (bestWay L s.1 (lows low (f, x)) f x).1
  m1 : gm s.2 f x = (bestWay L s.1 (lows low (f, x)) f x).2
  p2 : gp s.1 x f = (bestWay L s.1 (lows low (f, x)) x f).1
  m2 : gm s.2 x f = (bestWay L s.1 (lows low (f, x)) x f).2
theorem fix_take {L : Tab (Option Int)} {low : Tab (List Nat)} {found : List PP} (hO : FoundOk found low) : ∀ i, ∀ f x, (f, x) ∈ found.take i → FixAt L low ((found.take i).foldl (fillStep L low) ([], [])) f x
  | 0 => by simp
  | i + 1 => by
    intro f x hm
    cases e : found[i]? with
    | none =>
      have hl : found.length ≤ i := by simpa using e
      rw [List.take_of_length_le (by omega)] at hm ⊢
      have := fix_take (L := L) hO i f x (by rw [List.take_of_length_le hl]; exact hm)
      rw [List.take_of_length_le hl] at this
      exact this
    | some p =>
      have ih := fix_take (L := L) hO i
      rw [take_foldl e]
      rw [List.take_add_one, e] at hm
      generalize (found.take i).foldl (fillStep L low) ([], []) = st at ih
      obtain ⟨a, b⟩ := p
      have hpf : (a, b) ∈ found := List.mem_of_getElem? e
      have hsw : (b, a) ∉ found := hO.asy a b hpf
      have hab : (a, b) ≠ (b, a) := fun z => hsw (z ▸ hpf)
      have hin : ∀ q, q ∈ found.take i → q ∈ found := fun q m => List.mem_of_mem_take m
      have hni : (a, b) ∉ found.take i := by
        intro m
        obtain ⟨j, hj⟩ := List.getElem?_of_mem m
        have hl := (List.getElem?_eq_some_iff.mp hj).1
        rw [List.length_take] at hl
        rw [getElem?_take_lt (by omega)] at hj
        have := (List.getElem?_inj (List.getElem?_eq_some_iff.mp e).1 hO.nd).mp (e.trans hj.symm)
        omega
      -- the tables behind the step
      have est : fillStep L low st (a, b) = fillWay L (lows low (a, b)) (fillWay L (lows low (a, b)) st (a, b)) (b, a) := rfl
      rw [est]
      have g1 : ∀ u v, gp (fillWay L (lows low (a, b)) st (a, b)).1 u v = if (u, v) = (a, b) then (bestWay L st.1 (lows low (a, b)) a b).1 else gp st.1 u v := fun u v => gp_tput _ _ _ u v
      have n1 : ∀ u v, gm (fillWay L (lows low (a, b)) st (a, b)).2 u v = if (u, v) = (a, b) then (bestWay L st.1 (lows low (a, b)) a b).2 else gm st.2 u v := fun u v => gm_tput _ _ _ u v
      generalize h1 : fillWay L (lows low (a, b)) st (a, b) = s1 at g1 n1
      have g2 : ∀ u v, gp (fillWay L (lows low (a, b)) s1 (b, a)).1 u v = if (u, v) = (b, a) then (bestWay L s1.1 (lows low (a, b)) b a).1 else gp s1.1 u v := fun u v => gp_tput _ _ _ u v
      have n2 : ∀ u v, gm (fillWay L (lows low (a, b)) s1 (b, a)).2 u v = if (u, v) = (b, a) then (bestWay L s1.1 (lows low (a, b)) b a).2 else gm s1.2 u v := fun u v => gm_tput _ _ _ u v
      generalize h2 : fillWay L (lows low (a, b)) s1 (b, a) = s2 at g2 n2
      -- a way of an earlier pair is what it was
      have old : ∀ u v, ((u, v) ∈ found.take i ∨ (v, u) ∈ found.take i) → (u, v) ≠ (a, b) ∧ (u, v) ≠ (b, a) := fun u v h => by
        rcases h with h | h
        · exact ⟨fun z => hni (z ▸ h), fun z => hsw (z ▸ hin _ h)⟩
        · refine ⟨fun z => ?_, fun z => ?_⟩
          · cases z; exact hsw (hin _ h)
          · cases z; exact hni h
      have gO : ∀ u v, ((u, v) ∈ found.take i ∨ (v, u) ∈ found.take i) → gp s2.1 u v = gp st.1 u v ∧ gp s1.1 u v = gp st.1 u v ∧ gm s2.2 u v = gm st.2 u v := fun u v h => by
        obtain ⟨z1, z2⟩ := old u v h
        refine ⟨by rw [g2, if_neg z2, g1, if_neg z1], by rw [g1, if_neg z1], by rw [n2, if_neg z2, n1, if_neg z1]⟩
      rcases List.mem_append.mp hm with hm | hm
      · have F := ih f x hm
        obtain ⟨j, hj⟩ := List.getElem?_of_mem hm
        have hl := (List.getElem?_eq_some_iff.mp hj).1
        rw [List.length_take] at hl
        have hji : j < i := by omega
        rw [getElem?_take_lt hji] at hj
        have hw : ∀ w ∈ lows low (f, x), (w, f) ∈ found.take i ∧ (w, x) ∈ found.take i := fun w m => by
          obtain ⟨m1, m2⟩ := hO.bef j f x hj w m
          have hsub : ∀ q, q ∈ found.take j → q ∈ found.take i := fun q mq => by
            obtain ⟨k, hk⟩ := List.getElem?_of_mem mq
            have hl := (List.getElem?_eq_some_iff.mp hk).1
            rw [List.length_take] at hl
            rw [getElem?_take_lt (by omega)] at hk
            rw [← getElem?_take_lt (i := i) (by omega)] at hk
            exact List.mem_of_getElem? hk
          exact ⟨hsub _ m1, hsub _ m2⟩
        have c1 : bestWay L s2.1 (lows low (f, x)) f x = bestWay L st.1 (lows low (f, x)) f x := bw_congr fun w m => ⟨(gO f w (.inr (hw w m).1)).1, (gO w x (.inl (hw w m).2)).1⟩
        have c2 : bestWay L s2.1 (lows low (f, x)) x f = bestWay L st.1 (lows low (f, x)) x f := bw_congr fun w m => ⟨(gO x w (.inr (hw w m).2)).1, (gO w f (.inl (hw w m).1)).1⟩
        have o1 := gO f x (.inl hm)
        have o2 := gO x f (.inr hm)
        exact ⟨by rw [o1.1, c1]; exact F.p1, by rw [o1.2.2, c1]; exact F.m1, by rw [o2.1, c2]; exact F.p2, by rw [o2.2.2, c2]; exact F.m2⟩
      · have hm : (f, x) = (a, b) := by simpa using hm
        cases hm
        have hw : ∀ w ∈ lows low (f, x), (w, f) ∈ found.take i ∧ (w, x) ∈ found.take i := fun w m => hO.bef i f x e w m
        have c1 : bestWay L s2.1 (lows low (f, x)) f x = bestWay L st.1 (lows low (f, x)) f x := bw_congr fun w m => ⟨(gO f w (.inr (hw w m).1)).1, (gO w x (.inl (hw w m).2)).1⟩
        have c2 : bestWay L s2.1 (lows low (f, x)) x f = bestWay L s1.1 (lows low (f, x)) x f := bw_congr fun w m => by
          have a1 := gO x w (.inr (hw w m).2)
          have a2 := gO w f (.inl (hw w m).1)
          exact ⟨by rw [a1.1, a1.2.1], by rw [a2.1, a2.2.1]⟩
        exact ⟨by rw [g2, if_neg hab, g1, if_pos rfl, c1], by rw [n2, if_neg hab, n1, if_pos rfl, c1], by rw [g2, if_pos rfl, c2], by rw [n2, if_pos rfl, c2]⟩
end Ov

/-! ## M12 -/
/-! The filling and the least sums. No library. -/
namespace Ov
open T
theorem fill_keys {L : Tab (Option Int)} {low : Tab (List Nat)} {x y : Nat} : ∀ (ps : List PP) (s : PM), Has (ps.foldl (fillStep L low) s).1 x y → Has s.1 x y ∨ (x, y) ∈ ps ∨ (y, x) ∈ ps
  | [], s, h => .inl h
  | p :: ps, s, h => by
    rw [List.foldl_cons] at h
    rcases fill_keys ps _ h with z | z | z
    · have e : fillStep L low s p = fillWay L (lows low p) (fillWay L (lows low p) s p) (p.2, p.1) := rfl
      rw [e] at z
      unfold Has fillWay at z
      dsimp only at z
      rw [tget_tput] at z
      split at z
      · rename_i q; cases q; exact .inr (.inr (by simp))
      · rw [tget_tput] at z
        split at z
        · rename_i q; rw [q]; exact .inr (.inl (by simp))
        · exact .inl z
    · exact .inr (.inl (List.mem_cons_of_mem _ z))
    · exact .inr (.inr (List.mem_cons_of_mem _ z))
theorem gp_some {t : Tab (Option Int)} {x y : Nat} {p : Int} (h : gp t x y = some p) : Has t x y := by
  unfold gp at h
  unfold Has
  cases e : tget t (x, y) with
  | none => rw [e] at h; cases h
  | some q => rfl
theorem link_keys {x y : Nat} : ∀ (ls : List Link) (t : Tab (Option Int)), Has (ls.foldl linkStep t) x y → Has t x y ∨ ∃ l ∈ ls, (x = l.1 ∧ y = l.2.1) ∨ (x = l.2.1 ∧ y = l.1)
  | [], _, h => .inl h
  | l :: ls, t, h => by
    rw [List.foldl_cons] at h
    rcases link_keys ls _ h with z | ⟨k, m, z⟩
    · unfold Has linkStep at z
      rw [tget_tput] at z
      split at z
      · rename_i q; cases q; exact .inr ⟨l, by simp, .inr ⟨rfl, rfl⟩⟩
      · rw [tget_tput] at z
        split at z
        · rename_i q; cases q; exact .inr ⟨l, by simp, .inl ⟨rfl, rfl⟩⟩
        · exact .inl z
    · exact .inr ⟨k, List.mem_cons_of_mem _ m, z⟩
/-- the weights of a net, of its filling -/
def wN (N : Net) : Wt := fun x y => gp (linkPrices N.2) x y
def fN (N : Net) (order : List Nat) : Wt := fun x y => gp (fillPM N order).1 x y
section
variable {N : Net} {order : List Nat} (hN : NetOk N) (ho : IsOrder N.1 order) (h2 : N.1 ≤ 200)
include hN ho h2
theorem found_ok : FoundOk (pairsL N order) (trianglesL (pairsL N order) order) where
  nd := pairs_nd hN ho
  asy := fun a b h1 h3 => by
    have := pairs_up hN ho h1
    have := pairs_up hN ho h3
    omega
  bef := fun i f s hi w hw => lows_before hN ho h2 hi hw
theorem fix_pairs {f x : Nat} (h : (f, x) ∈ pairsL N order) : FixAt (linkPrices N.2) (trianglesL (pairsL N order) order) (fillPM N order) f x := by
  have := fix_take (L := linkPrices N.2) (found_ok hN ho h2) (pairsL N order).length f x (by rw [List.take_length]; exact h)
  rw [List.take_length] at this
  exact this
theorem lows_mem {w f s : Nat} : w ∈ lows (trianglesL (pairsL N order) order) (f, s) ↔ (w, f) ∈ pairsL N order ∧ (w, s) ∈ pairsL N order ∧ rk order f < rk order s := mem_tri (by rw [ho.len]; exact ho) (tri_ok hN ho h2)
theorem fN_pair {x y : Nat} {p : Int} (h : fN N order x y = some p) : (x, y) ∈ pairsL N order ∨ (y, x) ∈ pairsL N order := by
  rcases fill_keys _ _ (gp_some h) with z | z
  · cases z
  · exact z
theorem wN_pair {x y : Nat} {p : Int} (h : wN N x y = some p) : (x, y) ∈ pairsL N order ∨ (y, x) ∈ pairsL N order := by
  rcases link_keys _ _ (gp_some h) with z | z
  · cases z
  · have hj := (adj_joined hN.lt).mpr z
    have hy : y < N.1 := (joined_ok hN.lt).lt x y hj
    have hx : x < N.1 := (joined_ok hN.lt).lt y x ((joined_sym hN.lt hN.ne).sy _ _ hj)
    have hne : rk order x ≠ rk order y := fun q => by
      have := rk_inj ho hx hy q
      subst this
      exact (joined_sym hN.lt hN.ne).ir x hj
    rcases Nat.lt_or_ge (rk order x) (rk order y) with g | g
    · exact .inl (pairs_link hN ho z g)
    · refine .inr (pairs_link hN ho ?_ (by omega))
      obtain ⟨l, m, ⟨a, b⟩ | ⟨a, b⟩⟩ := z
      · exact ⟨l, m, .inr ⟨b, a⟩⟩
      · exact ⟨l, m, .inl ⟨b, a⟩⟩
/-- the price of a way is the best way's -/
theorem fN_best {x y : Nat} (h : (x, y) ∈ pairsL N order ∨ (y, x) ∈ pairsL N order) : ∃ ws, (∀ w, w ∈ ws ↔ ((w, x) ∈ pairsL N order ∧ (w, y) ∈ pairsL N order)) ∧ fN N order x y = (bestWay (linkPrices N.2) (fillPM N order).1 ws x y).1 ∧ gm (fillPM N order).2 x y = (bestWay (linkPrices N.2) (fillPM N order).1 ws x y).2 := by
  rcases h with h | h
  · have F := fix_pairs hN ho h2 h
    exact ⟨_, fun w => ⟨fun m => by have := (lows_mem hN ho h2).mp m; exact ⟨this.1, this.2.1⟩, fun m => (lows_mem hN ho h2).mpr ⟨m.1, m.2, pairs_up hN ho h⟩⟩, F.p1, F.m1⟩
  · have F := fix_pairs hN ho h2 h
    exact ⟨_, fun w => ⟨fun m => by have := (lows_mem hN ho h2).mp m; exact ⟨this.2.1, this.1⟩, fun m => (lows_mem hN ho h2).mpr ⟨m.2, m.1, pairs_up hN ho h⟩⟩, F.p2, F.m2⟩
theorem fN_walk : ∀ (k : Nat) (x y : Nat) (p : Int), min (rk order x) (rk order y) ≤ k → fN N order x y = some p → Walk (wN N) x y p := by
  intro k
  induction k using Nat.strongRecOn with
  | ind k ih =>
    intro x y p hk h
    obtain ⟨ws, hws, e, _⟩ := fN_best hN ho h2 (fN_pair hN ho h2 h)
    obtain ⟨_, _, b⟩ := bw_spec (linkPrices N.2) (fillPM N order).1 ws x y
    rw [e] at h
    rcases b with b | ⟨w, m, c, b, ho'⟩
    · rw [b] at h; exact Walk.one h
    · rw [b] at h
      cases h
      obtain ⟨p1, p2, e1, e2, e3⟩ := osum_some ho'
      obtain ⟨m1, m2⟩ := (hws w).mp m
      have u1 := pairs_up hN ho m1
      have u2 := pairs_up hN ho m2
      exact ((ih (rk order w) (by omega) x w p1 (by omega) e1).trans (ih (rk order w) (by omega) w y p2 (by omega) e2)).cast e3
/-- the filling keeps all least sums -/
theorem filled (hpos : ∀ x y p, wN N x y = some p → 0 < p) : Filled (wN N) (fN N order) (rk order) where
  pos := fun x y p h => (fN_walk hN ho h2 _ x y p (Nat.le_refl _) h).nonneg fun x y p h => Int.le_of_lt (hpos x y p h)
  ne := fun x y p h => by
    rcases fN_pair hN ho h2 h with z | z
    · have := pairs_up hN ho z; omega
    · have := pairs_up hN ho z; omega
  tri := fun x v y a b h1 h3 ha hb hxy => by
    have ux : (v, x) ∈ pairsL N order := by
      rcases fN_pair hN ho h2 ha with z | z
      · have := pairs_up hN ho z; omega
      · exact z
    have uy : (v, y) ∈ pairsL N order := by
      rcases fN_pair hN ho h2 hb with z | z
      · exact z
      · have := pairs_up hN ho z; omega
    have hp : (x, y) ∈ pairsL N order ∨ (y, x) ∈ pairsL N order := by
      rcases Nat.lt_trichotomy (rk order x) (rk order y) with g | g | g
      · exact .inl (pairs_cl hN ho ux uy g)
      · exact absurd (rk_inj ho (pairs_lt hN ho ux).2 (pairs_lt hN ho uy).2 g) hxy
      · exact .inr (pairs_cl hN ho uy ux g)
    obtain ⟨ws, hws, e, _⟩ := fN_best hN ho h2 hp
    obtain ⟨_, c, _⟩ := bw_spec (linkPrices N.2) (fillPM N order).1 ws x y
    have ha : gp (fillPM N order).1 x v = some a := ha
    have hb : gp (fillPM N order).1 v y = some b := hb
    have := c v ((hws v).mpr ⟨ux, uy⟩) (a + b) (by rw [ha, hb]; rfl)
    rw [← e] at this
    exact this
  link := fun x y p h => by
    obtain ⟨ws, _, e, _⟩ := fN_best hN ho h2 (wN_pair hN ho h2 h)
    obtain ⟨a, _, _⟩ := bw_spec (linkPrices N.2) (fillPM N order).1 ws x y
    have := a p ⟨p, h, Int.le_refl _⟩
    rw [← e] at this
    exact this
  walk := fun x y p h => fN_walk hN ho h2 _ x y p (Nat.le_refl _) h
end
end Ov

/-! ## M13 -/
/-! The answers over the filling. No library. -/
namespace Ov
open T
section
variable {N : Net} {order : List Nat} (hN : NetOk N) (ho : IsOrder N.1 order) (h2 : N.1 ≤ 200)
include hN ho h2
theorem fill_mem {r : Row} (h : r ∈ fillL N order) : (r.1, r.2.1) ∈ pairsL N order ∧ r.2.2.1 = fN N order r.1 r.2.1 ∧ r.2.2.2.1 = fN N order r.2.1 r.1 ∧ r.2.2.2.2.1 = gm (fillPM N order).2 r.1 r.2.1 ∧ r.2.2.2.2.2 = gm (fillPM N order).2 r.2.1 r.1 := by
  unfold fillL at h
  obtain ⟨p, hp, rfl⟩ := List.mem_map.mp h
  exact ⟨hp, rfl, rfl, rfl, rfl⟩
theorem fill_row {a b : Nat} (h : (a, b) ∈ pairsL N order) : (a, b, fN N order a b, fN N order b a, gm (fillPM N order).2 a b, gm (fillPM N order).2 b a) ∈ fillL N order := by
  unfold fillL
  exact List.mem_map.mpr ⟨(a, b), h, rfl⟩
theorem fill_srt : (fillL N order).Pairwise fun a b => rk order a.1 ≤ rk order b.1 := by
  unfold fillL
  rw [List.pairwise_map]
  exact (pairs_srt hN ho).imp fun h => h
theorem fill_up : RowsUp (fillL N order) true (fN N order) (rk order) N.1 where
  lt := fun r h => pairs_lt hN ho (fill_mem hN ho h2 h).1
  upw := fun r h => pairs_up hN ho (fill_mem hN ho h2 h).1
  srt := fill_srt hN ho h2
  snd := fun r h p hp => by rw [← (fill_mem hN ho h2 h).2.1]; exact hp
  cmp := fun a b p hr hp => by
    rcases fN_pair hN ho h2 hp with z | z
    · exact ⟨_, fill_row hN ho h2 z, rfl, rfl, hp⟩
    · have := pairs_up hN ho z; omega
theorem fill_down : RowsUp (fillL N order) false (trW (fN N order)) (rk order) N.1 where
  lt := fun r h => pairs_lt hN ho (fill_mem hN ho h2 h).1
  upw := fun r h => pairs_up hN ho (fill_mem hN ho h2 h).1
  srt := fill_srt hN ho h2
  snd := fun r h p hp => by
    show fN N order r.2.1 r.1 = some p
    rw [← (fill_mem hN ho h2 h).2.2.1]; exact hp
  cmp := fun a b p hr hp => by
    rcases fN_pair hN ho h2 (show fN N order b a = some p from hp) with z | z
    · have := pairs_up hN ho z; omega
    · exact ⟨_, fill_row hN ho h2 z, rfl, rfl, hp⟩
/-- the answer over the filling is the least sum of the net -/
theorem answer_dist (hpos : ∀ x y p, wN N x y = some p → 0 < p) {s t : Nat} (hs : s < N.1) (ht : t < N.1) : Least (Walk (wN N) s t) (answerL order (fillL N order) s t).1 := by
  refine ud_least (filled hN ho h2 hpos) (answer_least (order := order) (fun p hp => ho.all p (by rw [← ho.len]; exact hp)) (fun p hp => by rw [ho.len]; exact ho.lt p hp) ?_ ?_ (by rw [ho.len]; exact hs) (by rw [ho.len]; exact ht))
  · rw [ho.len]; exact fill_up hN ho h2
  · rw [ho.len]; exact fill_down hN ho h2
end
end Ov

/-! ## M14 -/
/-! Roads. No library. -/
namespace Ov
open T
theorem Path.append {w : Wt} : ∀ {l l2 : List Nat} {x y z : Nat} {c d : Int}, Path w x l y c → Path w y l2 z d → Path w x (l ++ l2) z (c + d)
  | [], l2, x, y, z, c, d, ⟨e1, e2⟩, h => by subst e1; subst e2; rw [Int.zero_add]; exact h
  | v :: l, l2, x, y, z, c, d, ⟨p, e, h1, h2, h3⟩, h => ⟨p, e + d, h1, Path.append h2 h, by omega⟩
theorem Path.cast {w : Wt} {l : List Nat} {x y : Nat} {c d : Int} (h : Path w x l y c) (e : c = d) : Path w x l y d := e ▸ h
theorem Path.one {w : Wt} {x y : Nat} {p : Int} (h : w x y = some p) : Path w x [y] y p := ⟨p, 0, h, ⟨rfl, rfl⟩, by omega⟩
theorem wayOf_mem {F : Wt} {M : Nat → Nat → Option Nat} {x y : Nat} : ∀ {rows : List Row}, (∀ r ∈ rows, r.2.2.1 = F r.1 r.2.1 ∧ r.2.2.2.1 = F r.2.1 r.1 ∧ r.2.2.2.2.1 = M r.1 r.2.1 ∧ r.2.2.2.2.2 = M r.2.1 r.1) → (∃ r ∈ rows, (r.1 = x ∧ r.2.1 = y) ∨ (r.1 = y ∧ r.2.1 = x)) → wayOf rows x y = some (F x y, M x y)
  | [], _, ⟨r, m, _⟩ => by cases m
  | r :: rows, h, ⟨q, m, e⟩ => by
    have hr := h r (by simp)
    unfold wayOf
    by_cases e1 : (r.1, r.2.1) = (x, y)
    · rw [if_pos e1]
      injection e1 with a b
      rw [hr.1, hr.2.2.1, a, b]
    · rw [if_neg e1]
      by_cases e2 : (r.2.1, r.1) = (x, y)
      · rw [if_pos e2]
        injection e2 with a b
        rw [hr.2.1, hr.2.2.2, a, b]
      · rw [if_neg e2]
        refine wayOf_mem (fun r m => h r (List.mem_cons_of_mem _ m)) ?_
        rcases List.mem_cons.mp m with z | m
        · subst z
          rcases e with ⟨a, b⟩ | ⟨a, b⟩
          · exact absurd (by rw [a, b]) e1
          · exact absurd (by rw [a, b]) e2
        · exact ⟨q, m, e⟩
section
variable {N : Net} {order : List Nat} (hN : NetOk N) (ho : IsOrder N.1 order) (h2 : N.1 ≤ 200)
include hN ho h2
theorem way_fill {x y : Nat} (h : (x, y) ∈ pairsL N order ∨ (y, x) ∈ pairsL N order) : wayOf (fillL N order) x y = some (fN N order x y, gm (fillPM N order).2 x y) := by
  refine wayOf_mem (F := fN N order) (M := gm (fillPM N order).2) (fun r m => (fill_mem hN ho h2 m).2) ?_
  rcases h with h | h
  · exact ⟨_, fill_row hN ho h2 h, .inl ⟨rfl, rfl⟩⟩
  · exact ⟨_, fill_row hN ho h2 h, .inr ⟨rfl, rfl⟩⟩
/-- the road of a way has its price -/
theorem road_path : ∀ (k x y : Nat) (p : Int), min (rk order x) (rk order y) < k → fN N order x y = some p → ∃ l, roadOf (fillL N order) k x y = some (x :: l) ∧ Path (wN N) x l y p
  | 0, x, y, p, h, _ => absurd h (by omega)
  | k + 1, x, y, p, h, hp => by
    have hpr := fN_pair hN ho h2 hp
    have hw := way_fill hN ho h2 hpr
    obtain ⟨ws, hws, e1, e2⟩ := fN_best hN ho h2 hpr
    obtain ⟨_, _, b⟩ := bw_spec (linkPrices N.2) (fillPM N order).1 ws x y
    unfold roadOf
    rw [hw, hp, e2]
    rcases b with b | ⟨w, m, c, b, ho'⟩
    · rw [b]
      dsimp only
      refine ⟨[y], rfl, Path.one ?_⟩
      rw [hp, b] at e1
      exact e1.symm
    · rw [b]
      dsimp only
      obtain ⟨p1, p2, a1, a2, a3⟩ := osum_some ho'
      obtain ⟨m1, m2⟩ := (hws w).mp m
      have u1 := pairs_up hN ho m1
      have u2 := pairs_up hN ho m2
      obtain ⟨l1, r1, q1⟩ := road_path k x w p1 (by omega) a1
      obtain ⟨l2, r2, q2⟩ := road_path k w y p2 (by omega) a2
      rw [r1, r2]
      dsimp only
      refine ⟨l1 ++ l2, by simp, (q1.append q2).cast ?_⟩
      rw [hp, b] at e1
      injection e1 with e1
      omega
theorem chain_path : ∀ {l : List Nat} {x z : Nat} {c : Int}, Path (fN N order) x l z c → ∃ l', chainRoad (fillL N order) N.1 (x :: l) = l' ∧ Path (wN N) x l' z c
  | [], x, z, c, h => ⟨[], by unfold chainRoad; rfl, h⟩
  | y :: l, x, z, c, ⟨p, d, e1, e2, e3⟩ => by
    obtain ⟨l2, r2, q2⟩ := chain_path e2
    have hx : rk order x < N.1 := by
      rcases fN_pair hN ho h2 e1 with m | m
      · exact rk_lt ho (pairs_lt hN ho m).1
      · exact rk_lt ho (pairs_lt hN ho m).2
    obtain ⟨l1, r1, q1⟩ := road_path hN ho h2 N.1 x y p (by omega) e1
    refine ⟨l1 ++ l2, ?_, (q1.append q2).cast e3.symm⟩
    unfold chainRoad
    rw [r1, r2]
    rfl
end
/-! ### the steps -/
def stp (s : List Sum) (x : Nat) : Option Nat := (s.getD x (none, none)).2
theorem sum_step {up : Bool} {s : List Sum} {q : Row} (h : q.2.1 < s.length) (x : Nat) :
    (∃ t, osum (val s q.1) (colOf up q) = some t ∧ x = q.2.1 ∧ (sumStep up s q).getD x (none, none) = (some t, some q.1)) ∨ (sumStep up s q).getD x (none, none) = s.getD x (none, none) := by
  unfold sumStep
  cases e : osum (s.getD q.1 (none, none)).1 (colOf up q) with
  | none => exact .inr rfl
  | some t =>
    dsimp only
    split
    · rw [getD_set h]
      split
      · rename_i z; exact .inl ⟨t, e, z, rfl⟩
      · exact .inr rfl
    · exact .inr rfl
/-- each sum comes by its step -/
structure StpOk (F : Wt) (r : Nat → Nat) (p : Nat) (post : List Row) (s : List Sum) : Prop where
  at_ : ∀ x d, val s x = some d → x = p ∨ ∃ l c d', stp s x = some l ∧ r l < r x ∧ F l x = some c ∧ val s l = some d' ∧ d = d' + c ∧ ∀ q ∈ post, r l ≤ r q.1
theorem stp_inv {up : Bool} {F : Wt} {r : Nat → Nat} {n p : Nat} : ∀ (post pre : List Row) (s : List Sum), RowsUp (pre ++ post) up F r n → s.length = n → StpOk F r p post s → StpOk F r p [] (post.foldl (sumStep up) s)
  | [], pre, s, hR, hl, h => h
  | q :: post, pre, s, hR, hl, h => by
    rw [List.foldl_cons]
    have hq : q ∈ pre ++ q :: post := by simp
    have hql := hR.lt q hq
    have hqu := hR.upw q hq
    have hne : q.1 ≠ q.2.1 := fun z => by rw [z] at hqu; omega
    have hs : ∀ z ∈ post, r q.1 ≤ r z.1 := fun z m => by
      have := (List.pairwise_append.mp hR.srt).2.1
      exact (List.pairwise_cons.mp this).1 z m
    refine stp_inv post (pre ++ [q]) (sumStep up s q) (by simpa using hR) (by have := sums_len' up [q] s; simpa [hl] using this) ⟨fun x d hv => ?_⟩
    have hsame : ∀ l, r l ≤ r q.1 → (sumStep up s q).getD l (none, none) = s.getD l (none, none) := fun l hl' => by
      rcases sum_step (up := up) (s := s) (q := q) (by rw [hl]; exact hql.2) l with ⟨t, _, e, _⟩ | e
      · rw [e] at hl'; omega
      · exact e
    rcases sum_step (up := up) (s := s) (q := q) (by rw [hl]; exact hql.2) x with ⟨t, ht, e, e2⟩ | e
    · obtain ⟨a, b, e3, e4, e5⟩ := osum_some ht
      have ht2 : d = t := by
        unfold val at hv
        rw [e2] at hv
        cases hv; rfl
      refine .inr ⟨q.1, b, a, by unfold stp; rw [e2], by rw [e]; exact hqu, by rw [e]; exact hR.snd q hq b e4, ?_, by omega, hs⟩
      unfold val
      rw [hsame q.1 (Nat.le_refl _)]
      exact e3
    · have hv2 : val s x = some d := by unfold val at hv ⊢; rw [← e]; exact hv
      rcases h.at_ x d hv2 with z | ⟨l, c, d', a1, a2, a3, a4, a5, a6⟩
      · exact .inl z
      · refine .inr ⟨l, c, d', by unfold stp; rw [e]; exact a1, a2, a3, ?_, a5, fun z m => a6 z (List.mem_cons_of_mem _ m)⟩
        unfold val
        rw [hsame l (a6 q (by simp))]
        exact a4
theorem stp_ok {up : Bool} {F : Wt} {r : Nat → Nat} {n p : Nat} {rows : List Row} (hR : RowsUp rows up F r n) (hp : p < n) : StpOk F r p [] (sumsOver n rows p up) := by
  unfold sumsOver
  refine stp_inv rows [] _ (by simpa using hR) (by simp) ⟨fun x d hv => ?_⟩
  rw [val_init hp] at hv
  split at hv
  · rename_i z; exact .inl z
  · cases hv
theorem Up.self {F : Wt} {r : Nat → Nat} {x : Nat} {c : Int} (h : Up F r x x c) : c = 0 := by
  cases h with
  | nil => rfl
  | cons h1 _ h3 => have := h3.le; omega
section
variable {up : Bool} {F : Wt} {r : Nat → Nat} {n p : Nat} {rows : List Row} (hR : RowsUp rows up F r n) (hp : p < n)
include hR hp
theorem val_self {d : Int} (h : val (sumsOver n rows p up) p = some d) : d = 0 := ((sums_least hR hp p).snd d h).self
/-- the steps lead back: a path of F from p, told from its end -/
theorem steps_up : ∀ (k x : Nat) (d : Int), r x < k → val (sumsOver n rows p up) x = some d → ∃ l, (stepsTo (sumsOver n rows p up) p k x).reverse = p :: l ∧ Path F p l x d
  | 0, x, d, h, _ => absurd h (by omega)
  | k + 1, x, d, h, hv => by
    unfold stepsTo
    by_cases e : x = p
    · rw [if_pos e]
      subst e
      exact ⟨[], rfl, rfl, val_self hR hp hv⟩
    · rw [if_neg e]
      rcases (stp_ok hR hp).at_ x d hv with z | ⟨l, c, d', a1, a2, a3, a4, a5, _⟩
      · exact absurd z e
      · rw [show ((sumsOver n rows p up).getD x (none, none)).2 = some l from a1]
        obtain ⟨l2, e2, q2⟩ := steps_up k l d' (by omega) a4
        refine ⟨l2 ++ [x], ?_, ?_⟩
        · rw [List.reverse_cons]
          show (stepsTo (sumsOver n rows p up) p k l).reverse ++ [x] = _
          rw [e2]; rfl
        · rw [a5]; exact q2.append (Path.one a3)
theorem steps_down : ∀ (k x : Nat) (d : Int), r x < k → val (sumsOver n rows p up) x = some d → ∃ l, stepsTo (sumsOver n rows p up) p k x = x :: l ∧ Path (trW F) x l p d
  | 0, x, d, h, _ => absurd h (by omega)
  | k + 1, x, d, h, hv => by
    unfold stepsTo
    by_cases e : x = p
    · rw [if_pos e]
      subst e
      exact ⟨[], rfl, rfl, val_self hR hp hv⟩
    · rw [if_neg e]
      rcases (stp_ok hR hp).at_ x d hv with z | ⟨l, c, d', a1, a2, a3, a4, a5, _⟩
      · exact absurd z e
      · rw [show ((sumsOver n rows p up).getD x (none, none)).2 = some l from a1]
        obtain ⟨l2, e2, q2⟩ := steps_down k l d' (by omega) a4
        refine ⟨l :: l2, ?_, c, d', a3, q2, by omega⟩
        show x :: stepsTo (sumsOver n rows p up) p k l = _
        rw [e2]
end
/-! ### the answer's top and its road -/
theorem meet_top {ups downs : List Sum} : ∀ (xs : List Nat) (b : Sum), (b = (none, none) ∨ ∃ t p, b = (some t, some p) ∧ osum (val ups p) (val downs p) = some t) → (xs.foldl (meetStep ups downs) b = (none, none) ∨ ∃ t p, xs.foldl (meetStep ups downs) b = (some t, some p) ∧ osum (val ups p) (val downs p) = some t)
  | [], b, h => h
  | x :: xs, b, h => by
    rw [List.foldl_cons]
    refine meet_top xs _ ?_
    unfold meetStep
    cases e : osum (ups.getD x (none, none)).1 (downs.getD x (none, none)).1 with
    | none => exact h
    | some t =>
      dsimp only
      split
      · exact .inr ⟨t, x, rfl, e⟩
      · exact h
section
variable {N : Net} {order : List Nat} (hN : NetOk N) (ho : IsOrder N.1 order) (h2 : N.1 ≤ 200)
include hN ho h2
theorem val_lt {up : Bool} {p x : Nat} {d : Int} (hp : p < N.1) (h : val (sumsOver N.1 (fillL N order) p up) x = some d) : x < N.1 := by
  rcases Nat.lt_or_ge x N.1 with g | g
  · exact g
  · unfold val at h
    have hl : (sumsOver N.1 (fillL N order) p up).length = N.1 := by unfold sumsOver; rw [sums_len']; simp
    rw [List.getD_eq_getElem?_getD, List.getElem?_eq_none (by omega)] at h
    cases h
theorem answer_road {s t : Nat} (hs : s < N.1) (ht : t < N.1) : ((answerL order (fillL N order) s t) = (none, none) ∧ answerRoad order (fillL N order) s t = none) ∨ ∃ d top l, answerL order (fillL N order) s t = (some d, some top) ∧ answerRoad order (fillL N order) s t = some (s :: l) ∧ Path (wN N) s l t d := by
  have hm := meet_top (ups := sumsOver order.length (fillL N order) s true) (downs := sumsOver order.length (fillL N order) t false) order (none, none) (.inl rfl)
  have hl : order.length = N.1 := ho.len
  unfold answerRoad
  rcases hm with e | ⟨d, top, e, h⟩
  · have e' : answerL order (fillL N order) s t = (none, none) := e
    exact .inl ⟨e', by rw [e']⟩
  · have e' : answerL order (fillL N order) s t = (some d, some top) := e
    rw [e']
    dsimp only
    obtain ⟨a, b, e1, e2, e3⟩ := osum_some h
    rw [hl] at e1 e2
    have hlt : rk order top < N.1 := rk_lt ho (val_lt hN ho h2 hs e1)
    obtain ⟨l1, r1, q1⟩ := steps_up (fill_up hN ho h2) hs N.1 top a hlt e1
    obtain ⟨l2, r2, q2⟩ := steps_down (fill_down hN ho h2) ht N.1 top b hlt e2
    have q2 : Path (fN N order) top l2 t b := q2
    obtain ⟨l, c1, c2⟩ := chain_path hN ho h2 (q1.append q2)
    refine .inr ⟨d, top, l, rfl, ?_, c2.cast e3⟩
    have : answerChain order (fillL N order) s t top = s :: (l1 ++ l2) := by
      unfold answerChain
      rw [hl, r1, r2]
      rfl
    rw [this, hl, c1]
end
end Ov

/-! ## M15 -/
/-! Labels. No library. -/
namespace Ov
open T
theorem tput_nd {κ α : Type} [DecidableEq κ] {t : List (κ × α)} (k : κ) (x : α) (h : (t.map (·.1)).Nodup) : ((tput t k x).map (·.1)).Nodup := by
  cases e : (tget t k).isSome with
  | true => rw [tput_keys x e]; exact h
  | false =>
    unfold tput
    rw [tany, if_neg (by rw [e]; decide), List.map_append]
    refine List.nodup_append.mpr ⟨h, by simp, ?_⟩
    intro a ha b hb z
    have hb : b = k := by simpa using hb
    subst hb
    subst z
    obtain ⟨p, hp, rfl⟩ := List.mem_map.mp ha
    have : (t.any fun q => decide (q.1 = p.1)) = true := List.any_eq_true.mpr ⟨p, hp, decide_eq_true rfl⟩
    rw [tany, e] at this
    cases this
theorem tget_mem {κ α : Type} [DecidableEq κ] {k : κ} {x : α} : ∀ {t : List (κ × α)}, tget t k = some x → (k, x) ∈ t
  | [], h => by cases h
  | p :: t, h => by
    rw [tget_cons] at h
    split at h
    · rename_i e; cases h; rw [← e]; simp
    · exact List.mem_cons_of_mem _ (tget_mem h)
theorem mem_tget {κ α : Type} [DecidableEq κ] {k : κ} {x : α} : ∀ {t : List (κ × α)}, (t.map (·.1)).Nodup → (k, x) ∈ t → tget t k = some x
  | [], _, h => by cases h
  | p :: t, nd, h => by
    rw [tget_cons]
    rw [List.map_cons, List.nodup_cons] at nd
    rcases List.mem_cons.mp h with e | m
    · rw [← e, if_pos rfl]
    · rw [if_neg fun z => nd.1 (by rw [z]; exact List.mem_map.mpr ⟨_, m, rfl⟩)]
      exact mem_tget nd.2 m
theorem foldl_min : ∀ (xs : List Int) (a : Int), (xs.foldl min a = a ∨ xs.foldl min a ∈ xs) ∧ xs.foldl min a ≤ a ∧ ∀ y ∈ xs, xs.foldl min a ≤ y
  | [], a => ⟨.inl rfl, Int.le_refl _, by simp⟩
  | x :: xs, a => by
    obtain ⟨h1, h2, h3⟩ := foldl_min xs (min a x)
    rw [List.foldl_cons]
    refine ⟨?_, by omega, fun y m => ?_⟩
    · rcases h1 with e | m
      · rw [e]
        rcases Int.le_total a x with g | g
        · exact .inl (by omega)
        · exact .inr (by rw [show min a x = x by omega]; simp)
      · exact .inr (List.mem_cons_of_mem _ m)
    · rcases List.mem_cons.mp m with e | m
      · subst e; omega
      · exact h3 y m
theorem omin_least (xs : List Int) : Least (fun c => c ∈ xs) (omin xs) := by
  cases xs with
  | nil => exact ⟨fun c h => (by cases h), fun c h => (by cases h)⟩
  | cons x xs =>
    obtain ⟨h1, h2, h3⟩ := foldl_min xs x
    refine ⟨fun c h => ?_, fun c h => ⟨_, rfl, ?_⟩⟩
    · injection h with h
      subst h
      rcases h1 with e | m
      · rw [e]; simp
      · exact List.mem_cons_of_mem _ m
    · rcases List.mem_cons.mp h with e | m
      · rw [e]; exact h2
      · exact h3 c m
theorem best_least {one two : Lab} (nd : (one.map (·.1)).Nodup) : Least (fun c => ∃ h a b, tget one h = some a ∧ tget two h = some b ∧ a + b = c) (bestSum one two) := by
  unfold bestSum
  refine (omin_least _).of (fun c h => ?_) fun c h => ?_
  · obtain ⟨p, hp, rfl⟩ := List.mem_map.mp h
    obtain ⟨m, hs⟩ := List.mem_filter.mp hp
    obtain ⟨b, hb⟩ := Option.isSome_iff_exists.mp hs
    exact ⟨p.1, p.2, b, mem_tget nd m, hb, by rw [hb]; rfl⟩
  · obtain ⟨h, a, b, h1, h2, h3⟩ := h
    refine ⟨c, List.mem_map.mpr ⟨(h, a), List.mem_filter.mpr ⟨tget_mem h1, by show (tget two h).isSome = true; rw [h2]; rfl⟩, ?_⟩, Int.le_refl _⟩
    show a + (tget two h).getD 0 = c
    rw [h2]; exact h3
/-! ### one label -/
structure LabOk (r : Nat → Nat) (sums : List Sum) (oth : Nat → Lab) (place : Nat) (pre : List Nat) (lab : Lab) : Prop where
  nd : (lab.map (·.1)).Nodup
  snd : ∀ h c, tget lab h = some c → val sums h = some c ∧ h ∈ pre
  cmp : ∀ o ∈ pre, ∀ c, val sums o = some c → tget lab o = some c ∨ (o ≠ place ∧ ∃ h a b, r o < r h ∧ tget lab h = some a ∧ tget (oth o) h = some b ∧ a + b ≤ c)
theorem lab_step {r : Nat → Nat} {sums : List Sum} {others : List (Nat × Lab)} {place o : Nat} {pre : List Nat} {lab : Lab} (h : LabOk r sums (fun o => (tget others o).getD []) place pre lab) (hn : o ∉ pre) (hr : ∀ x ∈ pre, r o < r x) : LabOk r sums (fun o => (tget others o).getD []) place (pre ++ [o]) (grownStep sums others place lab o) := by
  have weak : ∀ {lab' : Lab}, (∀ h c, tget lab h = some c → tget lab' h = some c) → ∀ x ∈ pre, ∀ c, val sums x = some c → tget lab' x = some c ∨ (x ≠ place ∧ ∃ h a b, r x < r h ∧ tget lab' h = some a ∧ tget ((tget others x).getD []) h = some b ∧ a + b ≤ c) := fun hm x m c e => by
    rcases h.cmp x m c e with z | ⟨n1, g, a, b, z1, z2, z3, z4⟩
    · exact .inl (hm _ _ z)
    · exact .inr ⟨n1, g, a, b, z1, hm _ _ z2, z3, z4⟩
  unfold grownStep
  cases e : (sums.getD o (none, none)).1 with
  | none =>
    dsimp only
    refine ⟨h.nd, fun g c z => ⟨(h.snd g c z).1, List.mem_append_left _ (h.snd g c z).2⟩, fun x m c z => ?_⟩
    rcases List.mem_append.mp m with m | m
    · exact weak (fun _ _ z => z) x m c z
    · have : x = o := by simpa using m
      subst this
      unfold val at z
      rw [e] at z; cases z
  | some p =>
    have put : LabOk r sums (fun o => (tget others o).getD []) place (pre ++ [o]) (tput lab o p) := by
      refine ⟨tput_nd _ _ h.nd, fun g c z => ?_, fun x m c z => ?_⟩
      · rw [tget_tput] at z
        split at z
        · rename_i hg; subst hg; cases z; exact ⟨e, by simp⟩
        · exact ⟨(h.snd g c z).1, List.mem_append_left _ (h.snd g c z).2⟩
      · rcases List.mem_append.mp m with m | m
        · refine weak (fun g c z => ?_) x m c z
          rw [tget_tput, if_neg fun q => hn (by rw [← q]; exact (h.snd g c z).2)]
          exact z
        · have : x = o := by simpa using m
          subst this
          have hv : val sums x = some p := e
          rw [hv] at z
          cases z
          exact .inl (tget_tput_same _ _ _)
    dsimp only
    have hb := best_least (one := lab) (two := (tget others o).getD []) h.nd
    cases q : bestSum lab ((tget others o).getD []) with
    | none =>
      dsimp only
      rw [if_neg (by simp)]
      exact put
    | some b =>
      dsimp only
      by_cases hc : o ≠ place ∧ decide (b ≤ p) = true
      · rw [if_pos hc]
        refine ⟨h.nd, fun g c z => ⟨(h.snd g c z).1, List.mem_append_left _ (h.snd g c z).2⟩, fun x m c z => ?_⟩
        rcases List.mem_append.mp m with m | m
        · exact weak (fun _ _ z => z) x m c z
        · have : x = o := by simpa using m
          subst this
          have hv : val sums x = some p := e
          rw [hv] at z
          cases z
          have hle : b ≤ p := of_decide_eq_true hc.2
          obtain ⟨g, u, v, g1, g2, g3⟩ := hb.snd b q
          exact .inr ⟨hc.1, g, u, v, hr g (h.snd g u g1).2, g1, g2, by omega⟩
      · rw [if_neg hc]; exact put
theorem lab_fold {r : Nat → Nat} {sums : List Sum} {others : List (Nat × Lab)} {place : Nat} : ∀ (post pre : List Nat) (lab : Lab), (pre ++ post).Pairwise (fun a b => r b < r a) → LabOk r sums (fun o => (tget others o).getD []) place pre lab → LabOk r sums (fun o => (tget others o).getD []) place (pre ++ post) (post.foldl (grownStep sums others place) lab)
  | [], pre, lab, _, h => by rw [List.append_nil]; exact h
  | o :: post, pre, lab, hp, h => by
    have hp2 := (List.pairwise_append.mp hp).2.2
    have := lab_fold post (pre ++ [o]) _ (by simpa using hp) (lab_step h (fun m => by have := hp2 o m o (by simp); omega) fun x m => hp2 x m o (by simp))
    simpa using this
theorem grown_ok {r : Nat → Nat} {order : List Nat} {sums : List Sum} {others : List (Nat × Lab)} {place : Nat} (hp : order.Pairwise fun a b => r a < r b) : LabOk r sums (fun o => (tget others o).getD []) place order.reverse (grownL order sums others place) := by
  have := lab_fold (r := r) (sums := sums) (others := others) (place := place) order.reverse [] [] (by rw [List.nil_append, List.pairwise_reverse]; exact hp) ⟨by simp, fun h c z => (nomatch (show none = some c from z)), by simp⟩
  rw [List.nil_append] at this
  exact this
/-! ### all labels -/
def fl (D : List (Nat × Lab) × List (Nat × Lab)) (p : Nat) : Lab := (tget D.1 p).getD []
def bl (D : List (Nat × Lab) × List (Nat × Lab)) (p : Nat) : Lab := (tget D.2 p).getD []
/-- what is asked of the labels of a place, the others' labels being what they are in the end -/
structure LabsOk (r : Nat → Nat) (order : List Nat) (rows : List Row) (done : List Nat) (D : List (Nat × Lab) × List (Nat × Lab)) : Prop where
  k1 : ∀ p, (tget D.1 p).isSome = true ↔ p ∈ done
  k2 : ∀ p, (tget D.2 p).isSome = true ↔ p ∈ done
  f : ∀ p ∈ done, ∃ oth : Nat → Lab, (∀ o, r p < r o → o ∈ order → oth o = bl D o) ∧ LabOk r (sumsOver order.length rows p true) oth p order.reverse (fl D p)
  b : ∀ p ∈ done, ∃ oth : Nat → Lab, (∀ o, r p < r o → o ∈ order → oth o = fl D o) ∧ LabOk r (sumsOver order.length rows p false) oth p order.reverse (bl D p)
theorem labs_fold {r : Nat → Nat} {order : List Nat} {rows : List Row} (hp : order.Pairwise fun a b => r a < r b) : ∀ (post pre : List Nat) (D : List (Nat × Lab) × List (Nat × Lab)), pre ++ post = order.reverse → LabsOk r order rows pre D → LabsOk r order rows (pre ++ post) (post.foldl (labStep order rows) D)
  | [], pre, D, _, h => by rw [List.append_nil]; exact h
  | p :: post, pre, D, e, h => by
    have hpr : (pre ++ p :: post).Pairwise fun a b => r b < r a := by rw [e, List.pairwise_reverse]; exact hp
    have hp2 := (List.pairwise_append.mp hpr).2.2
    have hp3 := (List.pairwise_cons.mp (List.pairwise_append.mp hpr).2.1).1
    have hn : p ∉ pre := fun m => by have := hp2 p m p (by simp); omega
    have up : ∀ o, r p < r o → o ∈ order → o ∈ pre := fun o ho m => by
      have m : o ∈ pre ++ p :: post := by rw [e]; simpa using m
      rcases List.mem_append.mp m with m | m
      · exact m
      · rcases List.mem_cons.mp m with z | m
        · rw [z] at ho; omega
        · have := hp3 o m; omega
    have key : LabsOk r order rows (pre ++ [p]) (labStep order rows D p) := by
      unfold labStep
      refine ⟨fun q => ?_, fun q => ?_, fun q m => ?_, fun q m => ?_⟩
      · dsimp only
        rw [tget_tput]
        split
        · rename_i z; subst z; simp
        · rename_i z; rw [h.k1]; simp [z]
      · dsimp only
        rw [tget_tput]
        split
        · rename_i z; subst z; simp
        · rename_i z; rw [h.k2]; simp [z]
      · rcases List.mem_append.mp m with m | m
        · obtain ⟨oth, h1, h2⟩ := h.f q m
          have hq : q ≠ p := fun z => hn (z ▸ m)
          refine ⟨oth, fun o ho mo => ?_, ?_⟩
          · rw [h1 o ho mo]
            unfold bl
            dsimp only
            have hq2 := hp2 q m p (by simp)
            rw [tget_tput_ne _ _ (show o ≠ p from fun z => by rw [z] at ho; omega)]
          · unfold fl
            dsimp only
            rw [tget_tput_ne _ _ hq]
            exact h2
        · have hq : q = p := by simpa using m
          subst hq
          refine ⟨fun o => (tget D.2 o).getD [], fun o ho mo => ?_, ?_⟩
          · unfold bl
            dsimp only
            rw [tget_tput_ne _ _ (show o ≠ q from fun z => by rw [z] at ho; omega)]
          · unfold fl
            dsimp only
            rw [tget_tput_same]
            exact grown_ok hp
      · rcases List.mem_append.mp m with m | m
        · obtain ⟨oth, h1, h2⟩ := h.b q m
          have hq : q ≠ p := fun z => hn (z ▸ m)
          refine ⟨oth, fun o ho mo => ?_, ?_⟩
          · rw [h1 o ho mo]
            unfold fl
            dsimp only
            have hq2 := hp2 q m p (by simp)
            rw [tget_tput_ne _ _ (show o ≠ p from fun z => by rw [z] at ho; omega)]
          · unfold bl
            dsimp only
            rw [tget_tput_ne _ _ hq]
            exact h2
        · have hq : q = p := by simpa using m
          subst hq
          refine ⟨fun o => (tget D.1 o).getD [], fun o ho mo => ?_, ?_⟩
          · unfold fl
            dsimp only
            rw [tget_tput_ne _ _ (show o ≠ q from fun z => by rw [z] at ho; omega)]
          · unfold bl
            dsimp only
            rw [tget_tput_same]
            exact grown_ok hp
    have := labs_fold hp post (pre ++ [p]) _ (by simpa using e) key
    simpa using this
theorem labs_ok {r : Nat → Nat} {order : List Nat} {rows : List Row} (hp : order.Pairwise fun a b => r a < r b) : LabsOk r order rows order.reverse (labDicts order rows) := by
  have := labs_fold (rows := rows) hp order.reverse [] ([], []) (by simp) ⟨fun p => by simp [tget_nil], fun p => by simp [tget_nil], by simp, by simp⟩
  rw [List.nil_append] at this
  exact this
/-! ### entries -/
theorem toDict_inv : ∀ (l d : Lab), (d.map (·.1)).Nodup → ((l.foldl (fun d p => tput d p.1 p.2) d).map (·.1)).Nodup ∧ ∀ h, tget (l.foldl (fun d p => tput d p.1 p.2) d) h = match tget l.reverse h with | some c => some c | none => tget d h
  | [], d, nd => ⟨nd, fun h => rfl⟩
  | p :: l, d, nd => by
    obtain ⟨h1, h2⟩ := toDict_inv l (tput d p.1 p.2) (tput_nd _ _ nd)
    rw [List.foldl_cons]
    refine ⟨h1, fun h => ?_⟩
    rw [h2, List.reverse_cons]
    have happ : ∀ (a : Lab) (q : Nat × Int), tget (a ++ [q]) h = match tget a h with | some c => some c | none => if q.1 = h then some q.2 else none := by
      intro a q
      induction a with
      | nil => rw [List.nil_append, tget_cons]; rfl
      | cons x a ih =>
        rw [List.cons_append, tget_cons, tget_cons, ih]
        split <;> rfl
    rw [happ]
    cases tget l.reverse h with
    | some c => rfl
    | none =>
      dsimp only
      rw [tget_tput]
      by_cases e : h = p.1
      · rw [if_pos e, if_pos e.symm]
      · rw [if_neg e, if_neg fun z => e z.symm]
theorem tget_perm {a b : Lab} (h : a.Perm b) (nd : (a.map (·.1)).Nodup) (k : Nat) : tget a k = tget b k := by
  have nd2 : (b.map (·.1)).Nodup := (h.map _).nodup_iff.mp nd
  cases e : tget a k with
  | some c => exact (mem_tget nd2 (h.mem_iff.mp (tget_mem e))).symm
  | none =>
    cases e2 : tget b k with
    | none => rfl
    | some c =>
      have := mem_tget nd (h.mem_iff.mpr (tget_mem e2))
      rw [e] at this; cases this
theorem entries_perm {lab : Lab} (nd : (lab.map (·.1)).Nodup) : (entriesL lab).Perm lab := by
  unfold entriesL
  have h1 : (((lab.map (·.1)).mergeSort (fun a b => decide (a ≤ b))).map fun k => (k, (tget lab k).getD 0)).Perm ((lab.map (·.1)).map fun k => (k, (tget lab k).getD 0)) := (List.mergeSort_perm _ _).map _
  refine h1.trans ?_
  rw [List.map_map]
  have : lab.map ((fun k => (k, (tget lab k).getD 0)) ∘ (·.1)) = lab := by
    conv => rhs; rw [← List.map_id lab]
    refine List.map_congr_left fun p m => ?_
    show (p.1, (tget lab p.1).getD 0) = p
    rw [mem_tget nd (show (p.1, p.2) ∈ lab from m)]
    rfl
  rw [this]
theorem dict_entries {lab : Lab} (nd : (lab.map (·.1)).Nodup) : ((toDict (entriesL lab)).map (·.1)).Nodup ∧ ∀ h, tget (toDict (entriesL lab)) h = tget lab h := by
  obtain ⟨h1, h2⟩ := toDict_inv (entriesL lab) [] (by simp)
  refine ⟨h1, fun h => ?_⟩
  have hp := entries_perm nd
  have nd2 : ((entriesL lab).map (·.1)).Nodup := (hp.map _).nodup_iff.mpr nd
  have e : tget (entriesL lab).reverse h = tget lab h := by
    rw [tget_perm (List.reverse_perm _) (by rw [List.map_reverse]; exact (List.reverse_perm _).nodup_iff.mpr nd2), tget_perm hp nd2]
  show tget ((entriesL lab).foldl (fun d p => tput d p.1 p.2) []) h = _
  rw [h2, e]
  cases tget lab h <;> rfl
/-! ### the answer by labels -/
section
variable {w F : Wt} {r : Nat → Nat} {order : List Nat} {rows : List Row}
theorem label_least (hF : Filled w F r) (hp : order.Pairwise fun a b => r a < r b) (ho : ∀ p, p < order.length ↔ p ∈ order) (hU : RowsUp rows true F r order.length) (hD : RowsUp rows false (trW F) r order.length) {s t : Nat} (hs : s < order.length) (ht : t < order.length)
    (hm : ∀ x y p, F x y = some p → y < order.length) (hb : ∀ p, p < order.length → r p < order.length) :
    Least (Walk w s t) (labelAnswer (entriesL (fl (labDicts order rows) s)) (entriesL (bl (labDicts order rows) t))) := by
  have L := labs_ok (r := r) (rows := rows) hp
  have done : ∀ p, p < order.length → p ∈ order.reverse := fun p h => by simpa using (ho p).mp h
  obtain ⟨_, hof, Lf⟩ := L.f s (done s hs)
  obtain ⟨_, hob, Lb⟩ := L.b t (done t ht)
  have d1 := dict_entries Lf.nd
  have d2 := dict_entries Lb.nd
  unfold labelAnswer
  refine (best_least d1.1).of (fun c h => ?_) fun c hc => ?_
  · obtain ⟨h, a, b, h1, h2, h3⟩ := h
    rw [d1.2] at h1
    rw [d2.2] at h2
    have u1 := (sums_least hU hs h).snd a (Lf.snd h a h1).1
    have u2 := (sums_least hD ht h).snd b (Lb.snd h b h2).1
    exact ((u1.walk hF.walk).trans (u2.walkT hF.walk)).cast h3
  · -- a top of greatest rank
    have upN : ∀ {a b : Nat} {c : Int}, a < order.length → Up F r a b c → b < order.length := by
      intro a b c ha h
      induction h with
      | nil => exact ha
      | cons _ h2 _ ih => exact ih (hm _ _ _ h2)
    have key : ∀ (k : Nat) (p : Nat) (cu cd : Int), order.length ≤ r p + k → Up F r s p cu → Up (trW F) r t p cd → cu + cd ≤ c → ∃ e, (∃ h a b, tget (toDict (entriesL (fl (labDicts order rows) s))) h = some a ∧ tget (toDict (entriesL (bl (labDicts order rows) t))) h = some b ∧ a + b = e) ∧ e ≤ c := by
      intro k
      induction k with
      | zero =>
        intro p cu cd hk hu hd hl
        have := hb p (upN hs hu)
        omega
      | succ k ih =>
        intro p cu cd hk hu hd hl
        have hpl := upN hs hu
        obtain ⟨a, ha, la⟩ := (sums_least hU hs p).cmp cu hu
        obtain ⟨b, hb', lb⟩ := (sums_least hD ht p).cmp cd hd
        obtain ⟨_, hop, Lpf⟩ := L.f p (done p hpl)
        obtain ⟨_, hopb, Lpb⟩ := L.b p (done p hpl)
        rcases Lf.cmp p (done p hpl) a ha with z | ⟨ne, h, x, y, z1, z2, z3, z4⟩
        · rcases Lb.cmp p (done p hpl) b hb' with q | ⟨ne, h, x, y, q1, q2, q3, q4⟩
          · exact ⟨a + b, ⟨p, a, b, by rw [d1.2]; exact z, by rw [d2.2]; exact q, rfl⟩, by omega⟩
          · have hrp : r t < r p := by
              have u := (sums_least hD ht p).snd b hb'
              cases u with
              | nil => exact absurd rfl ne
              | cons g1 _ g3 => have := g3.le; omega
            rw [hob p hrp ((ho p).mp hpl)] at q3
            have u1 := (sums_least hD ht h).snd x (Lb.snd h x q2).1
            have u2 := (sums_least hU hpl h).snd y (Lpf.snd h y q3).1
            exact ih h (cu + y) x (by omega) (hu.trans u2) u1 (by omega)
        · have hrp : r s < r p := by
            have u := (sums_least hU hs p).snd a ha
            cases u with
            | nil => exact absurd rfl ne
            | cons g1 _ g3 => have := g3.le; omega
          rw [hof p hrp ((ho p).mp hpl)] at z3
          have u1 := (sums_least hU hs h).snd x (Lf.snd h x z2).1
          have u2 := (sums_least hD hpl h).snd y (Lpb.snd h y z3).1
          exact ih h x (cd + y) (by omega) u1 (hd.trans u2) (by omega)
    obtain ⟨p, cu, cd, hu, hd, hl⟩ := ud_walk hF hc
    exact key order.length p cu cd (by omega) hu hd hl
end
section
variable {N : Net} {order : List Nat} (hN : NetOk N) (ho : IsOrder N.1 order) (h2 : N.1 ≤ 200)
include hN ho h2
theorem order_srt : order.Pairwise fun a b => rk order a < rk order b := by
  rw [List.pairwise_iff_getElem]
  intro i j hi hj hij
  rw [rk_at ho (List.getElem?_eq_getElem hi), rk_at ho (List.getElem?_eq_getElem hj)]
  exact hij
theorem label_dist (hpos : ∀ x y p, wN N x y = some p → 0 < p) {s t : Nat} (hs : s < N.1) (ht : t < N.1) : Least (Walk (wN N) s t) (labelAnswer (entriesL (fl (labDicts order (fillL N order)) s)) (entriesL (bl (labDicts order (fillL N order)) t))) := by
  have hl : order.length = N.1 := ho.len
  refine label_least (r := rk order) (filled hN ho h2 hpos) (order_srt hN ho h2) (fun p => ⟨fun h => ho.all p (by omega), fun m => by rw [hl]; exact ho.lt p m⟩) (by rw [hl]; exact fill_up hN ho h2) (by rw [hl]; exact fill_down hN ho h2) (by omega) (by omega) (fun x y p h => ?_) fun p h => by rw [hl]; exact rk_lt ho (by omega)
  rw [hl]
  rcases fN_pair hN ho h2 h with m | m
  · exact (pairs_lt hN ho m).2
  · exact (pairs_lt hN ho m).1
end
end Ov

/-! ## M16 -/
/-! True prices and rows without slack ways. No library. -/
namespace Ov
open T
theorem least_list (xs : List (Option Int)) : Least (fun c => some c ∈ xs) (leastL xs) := by
  unfold leastL
  refine (omin_least _).of (fun c h => ?_) fun c h => ⟨c, ?_, Int.le_refl _⟩
  · obtain ⟨a, m, e⟩ := List.mem_filterMap.mp h
    have e : a = some c := e
    rw [← e]; exact m
  · exact List.mem_filterMap.mpr ⟨some c, h, rfl⟩
theorem filled_get {F : Wt} {x y : Nat} : ∀ (rows : List Row) (t : Tab (Option Int)), (∀ r ∈ rows, r.2.2.1 = F r.1 r.2.1 ∧ r.2.2.2.1 = F r.2.1 r.1) → (gp t x y = F x y ∨ ∃ r ∈ rows, (r.1 = x ∧ r.2.1 = y) ∨ (r.1 = y ∧ r.2.1 = x)) → gp (rows.foldl (fun t r => tput (tput t (r.1, r.2.1) r.2.2.1) (r.2.1, r.1) r.2.2.2.1) t) x y = F x y
  | [], t, _, h => by
    rcases h with h | ⟨r, m, _⟩
    · exact h
    · cases m
  | r :: rows, t, hr, h => by
    rw [List.foldl_cons]
    have hr0 := hr r (by simp)
    refine filled_get rows _ (fun q m => hr q (List.mem_cons_of_mem _ m)) ?_
    have e : gp (tput (tput t (r.1, r.2.1) r.2.2.1) (r.2.1, r.1) r.2.2.2.1) x y = if (x, y) = (r.2.1, r.1) then r.2.2.2.1 else if (x, y) = (r.1, r.2.1) then r.2.2.1 else gp t x y := by rw [gp_tput, gp_tput]
    by_cases e1 : (x, y) = (r.2.1, r.1)
    · left; rw [e, if_pos e1, hr0.2]; injection e1 with a b; rw [a, b]
    · by_cases e2 : (x, y) = (r.1, r.2.1)
      · left; rw [e, if_neg e1, if_pos e2, hr0.1]; injection e2 with a b; rw [a, b]
      · rcases h with h | ⟨q, m, h⟩
        · left; rw [e, if_neg e1, if_neg e2]; exact h
        · rcases List.mem_cons.mp m with z | m
          · subst z
            rcases h with ⟨a, b⟩ | ⟨a, b⟩
            · exact absurd (by rw [a, b]) e2
            · exact absurd (by rw [a, b]) e1
          · exact .inr ⟨q, m, h⟩
section
variable {N : Net} {order : List Nat} (hN : NetOk N) (ho : IsOrder N.1 order) (h2 : N.1 ≤ 200)
include hN ho h2
theorem filledP_get {x y : Nat} (h : (x, y) ∈ pairsL N order ∨ (y, x) ∈ pairsL N order) : gp (filledP (fillL N order)) x y = fN N order x y := by
  refine filled_get (F := fN N order) (fillL N order) [] (fun r m => ⟨(fill_mem hN ho h2 m).2.1, (fill_mem hN ho h2 m).2.2.1⟩) (.inr ?_)
  rcases h with h | h
  · exact ⟨_, fill_row hN ho h2 h, .inl ⟨rfl, rfl⟩⟩
  · exact ⟨_, fill_row hN ho h2 h, .inr ⟨rfl, rfl⟩⟩
theorem fill_keysL : (fillL N order).map (fun r => (r.1, r.2.1)) = pairsL N order := by
  unfold fillL
  rw [List.map_map]
  conv => rhs; rw [← List.map_id (pairsL N order)]
  exact List.map_congr_left fun p _ => rfl
theorem upper_mem {l f : Nat} : f ∈ (tget (upperOf (fillL N order)) l).getD [] ↔ (l, f) ∈ pairsL N order := by
  have e : upperOf (fillL N order) = upDict (pairsL N order) := by
    rw [← fill_keysL hN ho h2]
    unfold upDict upperOf
    rw [List.foldl_map]
  rw [e]
  exact mem_ups
/-- what is told of the ways of the rows of a rest -/
def TrueOk (N : Net) (t : Tab (Option Int)) (suf : List Row) : Prop := ∀ r ∈ suf, Least (Walk (wN N) r.1 r.2.1) (gp t r.1 r.2.1) ∧ Least (Walk (wN N) r.2.1 r.1) (gp t r.2.1 r.1)
theorem true_suf (hpos : ∀ x y p, wN N x y = some p → 0 < p) : ∀ (suf pre : List Row), pre ++ suf = fillL N order → TrueOk N (suf.foldr (fun r t => trueStep (filledP (fillL N order)) (upperOf (fillL N order)) t r) []) suf
  | [], _, _ => by intro r m; cases m
  | r :: suf, pre, e => by
    have ih := true_suf hpos suf (pre ++ [r]) (by simpa using e)
    rw [List.foldr_cons]
    generalize suf.foldr (fun r t => trueStep (filledP (fillL N order)) (upperOf (fillL N order)) t r) [] = t at ih
    have hF := filled hN ho h2 hpos
    have mem : ∀ q, q ∈ suf → q ∈ fillL N order := fun q m => by rw [← e]; simp [m]
    have hr : r ∈ fillL N order := by rw [← e]; simp
    have hrp := (fill_mem hN ho h2 hr).1
    have hup := pairs_up hN ho hrp
    have nd : ((pre ++ r :: suf).map (fun r : Row => (r.1, r.2.1))).Nodup := by rw [e, fill_keysL hN ho h2]; exact pairs_nd hN ho
    have srt : (pre ++ r :: suf).Pairwise fun a b => rk order a.1 ≤ rk order b.1 := by rw [e]; exact fill_srt hN ho h2
    -- the ways of the rest
    have rest : ∀ a b, (a, b) ∈ pairsL N order ∨ (b, a) ∈ pairsL N order → rk order r.1 < rk order a → rk order r.1 < rk order b → Least (Walk (wN N) a b) (gp t a b) := by
      have one : ∀ a b, (a, b) ∈ pairsL N order → rk order r.1 < rk order a → ∃ q ∈ suf, q.1 = a ∧ q.2.1 = b := fun a b m g => by
        have hq := fill_row hN ho h2 m
        rw [← e] at hq
        rcases List.mem_append.mp hq with hq | hq
        · have := (List.pairwise_append.mp srt).2.2 _ hq r (by simp)
          dsimp only at this
          omega
        · rcases List.mem_cons.mp hq with z | hq
          · rw [← z] at g; dsimp only at g; omega
          · exact ⟨_, hq, rfl, rfl⟩
      intro a b m ga gb
      rcases m with m | m
      · obtain ⟨q, hq, rfl, rfl⟩ := one a b m ga
        exact (ih q hq).1
      · obtain ⟨q, hq, rfl, rfl⟩ := one b a m gb
        exact (ih q hq).2
    -- the row's own
    have pos : ∀ {x y : Nat} {c : Int}, Walk (wN N) x y c → 0 ≤ c := fun h => h.nonneg fun x y p q => Int.le_of_lt (hpos x y p q)
    have oth : ∀ u, u ∈ ((tget (upperOf (fillL N order)) r.1).getD []).filter (· ≠ r.2.1) ↔ (r.1, u) ∈ pairsL N order ∧ u ≠ r.2.1 := fun u => by
      rw [List.mem_filter, upper_mem hN ho h2]; simp
    have cl : ∀ u, (r.1, u) ∈ pairsL N order → u ≠ r.2.1 → ((u, r.2.1) ∈ pairsL N order ∨ (r.2.1, u) ∈ pairsL N order) ∧ rk order r.1 < rk order u := fun u m ne => by
      refine ⟨?_, pairs_up hN ho m⟩
      rcases Nat.lt_trichotomy (rk order u) (rk order r.2.1) with g | g | g
      · exact .inl (pairs_cl hN ho m hrp g)
      · exact absurd (rk_inj ho (pairs_lt hN ho m).2 (pairs_lt hN ho hrp).2 g) ne
      · exact .inr (pairs_cl hN ho hrp m g)
    have fu : ∀ u p, fN N order r.1 u = some p → rk order r.1 < rk order u → (r.1, u) ∈ pairsL N order := fun u p h g => by
      rcases fN_pair hN ho h2 h with z | z
      · exact z
      · have := pairs_up hN ho z; omega
    have fd : ∀ u p, fN N order u r.1 = some p → rk order r.1 < rk order u → (r.1, u) ∈ pairsL N order := fun u p h g => by
      rcases fN_pair hN ho h2 h with z | z
      · have := pairs_up hN ho z; omega
      · exact z
    have up : Least (Walk (wN N) r.1 r.2.1) (leastL (gp (filledP (fillL N order)) r.1 r.2.1 :: (((tget (upperOf (fillL N order)) r.1).getD []).filter (· ≠ r.2.1)).map fun p => osum (gp (filledP (fillL N order)) r.1 p) (gp t p r.2.1))) := by
      refine (least_list _).of (fun c h => ?_) fun c h => ?_
      · rcases List.mem_cons.mp h with h | h
        · rw [filledP_get hN ho h2 (.inl hrp)] at h
          exact hF.walk _ _ _ h.symm
        · obtain ⟨u, hu, h⟩ := List.mem_map.mp h
          obtain ⟨m, ne⟩ := (oth u).mp hu
          obtain ⟨a, b, e1, e2, e3⟩ := osum_some h
          rw [filledP_get hN ho h2 (.inl m)] at e1
          exact ((hF.walk _ _ _ e1).trans ((rest u r.2.1 (cl u m ne).1 (cl u m ne).2 hup).snd b e2)).cast e3
      · obtain ⟨p, cu, cd, hu, hd, hl⟩ := ud_walk hF h
        cases hu with
        | nil => have := hd.le; omega
        | @cons _ u _ a c1 g1 g2 g3 =>
          have w1 := (g3.walk hF.walk).trans (hd.walkT hF.walk)
          by_cases eu : u = r.2.1
          · subst eu
            refine ⟨a, ?_, by have := pos w1; omega⟩
            rw [filledP_get hN ho h2 (.inl hrp), g2]; simp
          · have m := fu u a g2 g1
            obtain ⟨b, e1, e2⟩ := (rest u r.2.1 (cl u m eu).1 (cl u m eu).2 hup).cmp _ w1
            refine ⟨a + b, List.mem_cons_of_mem _ (List.mem_map.mpr ⟨u, (oth u).mpr ⟨m, eu⟩, ?_⟩), by omega⟩
            rw [filledP_get hN ho h2 (.inl m), g2, e1]; rfl
    have down : Least (Walk (wN N) r.2.1 r.1) (leastL (gp (filledP (fillL N order)) r.2.1 r.1 :: (((tget (upperOf (fillL N order)) r.1).getD []).filter (· ≠ r.2.1)).map fun p => osum (gp t r.2.1 p) (gp (filledP (fillL N order)) p r.1))) := by
      refine (least_list _).of (fun c h => ?_) fun c h => ?_
      · rcases List.mem_cons.mp h with h | h
        · rw [filledP_get hN ho h2 (.inr hrp)] at h
          exact hF.walk _ _ _ h.symm
        · obtain ⟨u, hu, h⟩ := List.mem_map.mp h
          obtain ⟨m, ne⟩ := (oth u).mp hu
          obtain ⟨a, b, e1, e2, e3⟩ := osum_some h
          rw [filledP_get hN ho h2 (.inr m)] at e2
          exact (((rest r.2.1 u (cl u m ne).1.symm hup (cl u m ne).2).snd a e1).trans (hF.walk _ _ _ e2)).cast e3
      · obtain ⟨p, cu, cd, hu, hd, hl⟩ := ud_walk hF h
        cases hd with
        | nil => have := hu.le; omega
        | @cons _ u _ a c1 g1 g2 g3 =>
          have g2 : fN N order u r.1 = some a := g2
          have w1 := (hu.walk hF.walk).trans (g3.walkT hF.walk)
          by_cases eu : u = r.2.1
          · subst eu
            refine ⟨a, ?_, by have := pos w1; omega⟩
            rw [filledP_get hN ho h2 (.inr hrp), g2]; simp
          · have m := fd u a g2 g1
            obtain ⟨b, e1, e2⟩ := (rest r.2.1 u (cl u m eu).1.symm hup (cl u m eu).2).cmp _ w1
            refine ⟨b + a, List.mem_cons_of_mem _ (List.mem_map.mpr ⟨u, (oth u).mpr ⟨m, eu⟩, ?_⟩), by omega⟩
            rw [filledP_get hN ho h2 (.inr m), g2, e1]; rfl
    have ne12 : r.1 ≠ r.2.1 := fun z => by rw [z] at hup; omega
    intro q m
    unfold trueStep
    dsimp only
    rw [gp_tput, gp_tput, gp_tput, gp_tput]
    rcases List.mem_cons.mp m with z | m
    · subst z
      rw [if_neg (fun z => by injection z with a b; exact ne12 a), if_pos rfl, if_pos rfl]
      exact ⟨up, down⟩
    · have hq := (fill_mem hN ho h2 (mem q m)).1
      have huq := pairs_up hN ho hq
      have n1 : (q.1, q.2.1) ≠ (r.1, r.2.1) := fun z => by
        rw [List.map_append, List.map_cons] at nd
        have := (List.nodup_cons.mp (List.nodup_append.mp nd).2.1).1
        exact this (by rw [← z]; exact List.mem_map.mpr ⟨q, m, rfl⟩)
      have n2 : (q.1, q.2.1) ≠ (r.2.1, r.1) := fun z => by
        injection z with a b
        rw [a, b] at huq; omega
      have n3 : (q.2.1, q.1) ≠ (r.2.1, r.1) := fun z => by
        injection z with a b
        exact n1 (by rw [a, b])
      have n4 : (q.2.1, q.1) ≠ (r.1, r.2.1) := fun z => by
        injection z with a b
        exact n2 (by rw [a, b])
      rw [if_neg n2, if_neg n1, if_neg n3, if_neg n4]
      exact ih q m
theorem true_least (hpos : ∀ x y p, wN N x y = some p → 0 < p) {x y : Nat} (h : (x, y) ∈ pairsL N order ∨ (y, x) ∈ pairsL N order) : Least (Walk (wN N) x y) (gp (truePrices (fillL N order)) x y) := by
  have hs := true_suf hN ho h2 hpos (fillL N order) [] rfl
  have e : truePrices (fillL N order) = (fillL N order).foldr (fun r t => trueStep (filledP (fillL N order)) (upperOf (fillL N order)) t r) [] := by
    unfold truePrices
    rw [List.foldl_reverse]
  rw [e]
  rcases h with h | h
  · exact (hs _ (fill_row hN ho h2 h)).1
  · exact (hs _ (fill_row hN ho h2 h)).2
/-! ### thin rows -/
theorem slack_not (hpos : ∀ x y p, wN N x y = some p → 0 < p) {x y : Nat} {f : Int} (hf : fN N order x y = some f) (hm : ∀ c, Walk (wN N) x y c → f ≤ c) : (x, y) ∉ slackWays (fillL N order) := fun m => by
  have hp := fN_pair hN ho h2 hf
  unfold slackWays at m
  obtain ⟨r, _, m⟩ := List.mem_flatMap.mp m
  have hs := (List.mem_filter.mp m).2
  unfold isSlack at hs
  rw [filledP_get hN ho h2 hp, hf] at hs
  dsimp only at hs
  have ht := true_least hN ho h2 hpos hp
  cases e : gp (truePrices (fillL N order)) x y with
  | none => rw [e] at hs; cases hs
  | some t =>
    rw [e] at hs
    have := of_decide_eq_true hs
    have := hm t (ht.snd t e)
    omega
/-- the filled-in prices without the slack ways' -/
noncomputable def fT (N : Net) (order : List Nat) : Wt := fun x y => if (x, y) ∈ slackWays (fillL N order) then none else fN N order x y
theorem fT_some {x y : Nat} {p : Int} (h : fT N order x y = some p) : fN N order x y = some p := by
  unfold fT at h
  split at h
  · cases h
  · exact h
theorem thin_row {r : Row} (h : r ∈ withoutSlack (fillL N order)) : (r.1, r.2.1) ∈ pairsL N order ∧ r.2.2.1 = fT N order r.1 r.2.1 ∧ r.2.2.2.1 = fT N order r.2.1 r.1 := by
  unfold withoutSlack at h
  obtain ⟨q, hq, rfl⟩ := List.mem_map.mp h
  have hm := fill_mem hN ho h2 hq
  refine ⟨hm.1, ?_, ?_⟩
  · show (if (q.1, q.2.1) ∈ slackWays (fillL N order) then none else q.2.2.1) = fT N order q.1 q.2.1
    rw [hm.2.1]; rfl
  · show (if (q.2.1, q.1) ∈ slackWays (fillL N order) then none else q.2.2.2.1) = fT N order q.2.1 q.1
    rw [hm.2.2.1]; rfl
theorem thin_ex {a b : Nat} (h : (a, b) ∈ pairsL N order) : ∃ r ∈ withoutSlack (fillL N order), r.1 = a ∧ r.2.1 = b ∧ r.2.2.1 = fT N order a b ∧ r.2.2.2.1 = fT N order b a := by
  have m : thinRow (slackWays (fillL N order)) _ ∈ withoutSlack (fillL N order) := List.mem_map.mpr ⟨_, fill_row hN ho h2 h, rfl⟩
  exact ⟨_, m, rfl, rfl, rfl, rfl⟩
theorem thin_srt : (withoutSlack (fillL N order)).Pairwise fun a b => rk order a.1 ≤ rk order b.1 := by
  unfold withoutSlack
  rw [List.pairwise_map]
  exact (fill_srt hN ho h2).imp fun h => h
theorem thin_up : RowsUp (withoutSlack (fillL N order)) true (fT N order) (rk order) N.1 where
  lt := fun r h => pairs_lt hN ho (thin_row hN ho h2 h).1
  upw := fun r h => pairs_up hN ho (thin_row hN ho h2 h).1
  srt := thin_srt hN ho h2
  snd := fun r h p hp => by rw [← (thin_row hN ho h2 h).2.1]; exact hp
  cmp := fun a b p hr hp => by
    rcases fN_pair hN ho h2 (fT_some hN ho h2 hp) with z | z
    · obtain ⟨r, m, e1, e2, e3, _⟩ := thin_ex hN ho h2 z
      exact ⟨r, m, e1, e2, by show r.2.2.1 = some p; rw [e3]; exact hp⟩
    · have := pairs_up hN ho z; omega
theorem thin_down : RowsUp (withoutSlack (fillL N order)) false (trW (fT N order)) (rk order) N.1 where
  lt := fun r h => pairs_lt hN ho (thin_row hN ho h2 h).1
  upw := fun r h => pairs_up hN ho (thin_row hN ho h2 h).1
  srt := thin_srt hN ho h2
  snd := fun r h p hp => by
    show fT N order r.2.1 r.1 = some p
    rw [← (thin_row hN ho h2 h).2.2]; exact hp
  cmp := fun a b p hr hp => by
    have hp : fT N order b a = some p := hp
    rcases fN_pair hN ho h2 (fT_some hN ho h2 hp) with z | z
    · have := pairs_up hN ho z; omega
    · obtain ⟨r, m, e1, e2, _, e3⟩ := thin_ex hN ho h2 z
      exact ⟨r, m, e1, e2, by show r.2.2.2.1 = some p; rw [e3]; exact hp⟩
theorem up_thin (hpos : ∀ x y p, wN N x y = some p → 0 < p) {x z : Nat} {c : Int} (h : Up (fN N order) (rk order) x z c) (hm : ∀ c', Walk (wN N) x z c' → c ≤ c') : Up (fT N order) (rk order) x z c := by
  have hF := filled hN ho h2 hpos
  induction h with
  | nil x => exact .nil x
  | @cons x y z p c g1 g2 g3 ih =>
    refine .cons g1 ?_ (ih fun c' w => ?_)
    · unfold fT
      rw [if_neg (slack_not hN ho h2 hpos g2 fun c' w => ?_)]
      · exact g2
      · have := hm _ (w.trans (g3.walk hF.walk)); omega
    · have := hm _ ((hF.walk _ _ _ g2).trans w); omega
theorem down_thin (hpos : ∀ x y p, wN N x y = some p → 0 < p) {x z : Nat} {c : Int} (h : Up (trW (fN N order)) (rk order) x z c) (hm : ∀ c', Walk (wN N) z x c' → c ≤ c') : Up (trW (fT N order)) (rk order) x z c := by
  have hF := filled hN ho h2 hpos
  induction h with
  | nil x => exact .nil x
  | @cons x y z p c g1 g2 g3 ih =>
    have g2 : fN N order y x = some p := g2
    refine .cons g1 ?_ (ih fun c' w => ?_)
    · show fT N order y x = some p
      unfold fT
      rw [if_neg (slack_not hN ho h2 hpos g2 fun c' w => ?_)]
      · exact g2
      · have := hm _ ((g3.walkT hF.walk).trans w); omega
    · have := hm _ (w.trans (hF.walk _ _ _ g2)); omega
/-- the answer over the rows without slack ways is the least sum -/
theorem thin_dist (hpos : ∀ x y p, wN N x y = some p → 0 < p) {s t : Nat} (hs : s < N.1) (ht : t < N.1) : Least (Walk (wN N) s t) (answerL order (withoutSlack (fillL N order)) s t).1 := by
  have hF := filled hN ho h2 hpos
  have hl : order.length = N.1 := ho.len
  have hA := answer_least (order := order) (rows := withoutSlack (fillL N order)) (F := fT N order) (r := rk order) (s := s) (t := t) (fun p hp => ho.all p (by omega)) (fun p hp => by rw [hl]; exact ho.lt p hp) (by rw [hl]; exact thin_up hN ho h2) (by rw [hl]; exact thin_down hN ho h2) (by omega) (by omega)
  have hw : ∀ x y p, fT N order x y = some p → Walk (wN N) x y p := fun x y p h => hF.walk x y p (fT_some hN ho h2 h)
  refine hA.of (fun c ⟨p, cu, cd, a, b, e⟩ => ((a.walk hw).trans (b.walkT hw)).cast e) fun c hc => ?_
  have hL := answer_dist hN ho h2 hpos hs ht
  obtain ⟨d, hd, hle⟩ := hL.cmp c hc
  obtain ⟨p, cu, cd, hu, hdn, hl2⟩ := ud_walk hF (hL.snd d hd)
  have low : ∀ c', Walk (wN N) s t c' → d ≤ c' := fun c' w => by
    obtain ⟨e, he, hle⟩ := hL.cmp c' w
    rw [hd] at he; cases he; exact hle
  refine ⟨cu + cd, ⟨p, cu, cd, up_thin hN ho h2 hpos hu fun c' w => ?_, down_thin hN ho h2 hpos hdn fun c' w => ?_, rfl⟩, by omega⟩
  · have := low _ (w.trans (hdn.walkT hF.walk)); omega
  · have := low _ ((hu.walk hF.walk).trans w); omega
end
end Ov

/-! ## M17 -/
/-! Mending tells what a fresh filling tells. No library. -/
namespace Ov
open T
def swp (p : PP) : PP := (p.2, p.1)
def gw (t : Tab (Option Int)) (w : PP) : Option Int := gp t w.1 w.2
def hw (t : Tab (Option Nat)) (w : PP) : Option Nat := gm t w.1 w.2
theorem gw_tput (t : Tab (Option Int)) (k : PP) (v : Option Int) (w : PP) : gw (tput t k v) w = if w = k then v else gw t w := gp_tput t k v w.1 w.2
theorem hw_tput (t : Tab (Option Nat)) (k : PP) (v : Option Nat) (w : PP) : hw (tput t k v) w = if w = k then v else hw t w := gm_tput t k v w.1 w.2
def chOf (s0 s1 : PM) (w : PP) : List Change := if gw s1.1 w = gw s0.1 w then [] else [(w.1, w.2, gw s0.1 w, gw s1.1 w)]
structure MdInv (s0 s1 : PM) (ds : List PP) (m : MendS) : Prop where
  pd : ∀ w ∈ ds, gw m.prices w = gw s1.1 w
  pn : ∀ w, w ∉ ds → gw m.prices w = gw s0.1 w
  md : ∀ w ∈ ds, hw m.middles w = hw s1.2 w
  mn : ∀ w, w ∉ ds → hw m.middles w = hw s0.2 w
  ch : ∀ w ∈ ds, tget m.changed w = none → gw s1.1 w = gw s0.1 w
  cs : m.changes = ds.flatMap (chOf s0 s1)
theorem bw_eqL {L L' P : Tab (Option Int)} {ws : List Nat} {x y : Nat} (h : gp L x y = gp L' x y) : bestWay L P ws x y = bestWay L' P ws x y := by
  unfold bestWay; rw [h]
/-- one way -/
theorem md_way {L0 L1 : Tab (Option Int)} {s0 s1 : PM} {ds ed : List PP} {ws : List Nat} {m : MendS} {w : PP} (h : MdInv s0 s1 ds m) (hn : w ∉ ds) (hd : ∀ v ∈ ws, (w.1, v) ∈ ds ∧ (v, w.2) ∈ ds)
    (h0 : (gw s0.1 w, hw s0.2 w) = bestWay L0 s0.1 ws w.1 w.2) (h1 : (gw s1.1 w, hw s1.2 w) = bestWay L1 s1.1 ws w.1 w.2) (hL : w ∉ ed → gp L0 w.1 w.2 = gp L1 w.1 w.2) : MdInv s0 s1 (ds ++ [w]) (mendWay L1 ws ed m w) := by
  have hb : bestWay L1 m.prices ws w.1 w.2 = (gw s1.1 w, hw s1.2 w) := by
    rw [h1]
    refine bw_congr fun v mv => ?_
    exact ⟨h.pd _ (hd v mv).1, h.pd _ (hd v mv).2⟩
  have hg : gp m.prices w.1 w.2 = gw s0.1 w := h.pn w hn
  have dsp : ∀ u, u ∈ ds ++ [w] → u = w ∨ u ∈ ds := fun u mu => by
    rcases List.mem_append.mp mu with z | z
    · exact .inr z
    · exact .inl (by simpa using z)
  unfold mendWay
  split
  · rw [hb, hg]
    dsimp only
    refine ⟨fun u mu => ?_, fun u mu => ?_, fun u mu => ?_, fun u mu => ?_, fun u mu e => ?_, ?_⟩
    · rw [gw_tput]
      split
      · rename_i z; rw [z]
      · rename_i z; rcases dsp u mu with q | q
        · exact absurd q z
        · exact h.pd u q
    · rw [gw_tput, if_neg fun z => mu (by rw [z]; simp)]
      exact h.pn u fun z => mu (List.mem_append_left _ z)
    · rw [hw_tput]
      split
      · rename_i z; rw [z]
      · rename_i z; rcases dsp u mu with q | q
        · exact absurd q z
        · exact h.md u q
    · rw [hw_tput, if_neg fun z => mu (by rw [z]; simp)]
      exact h.mn u fun z => mu (List.mem_append_left _ z)
    · have e : tget (if gw s1.1 w = gw s0.1 w then m.changed else tput m.changed w true) u = none := e
      by_cases q : gw s1.1 w = gw s0.1 w
      · rw [if_pos q] at e
        rcases dsp u mu with z | z
        · rw [z]; exact q
        · exact h.ch u z e
      · rw [if_neg q, tget_tput] at e
        split at e
        · cases e
        · rename_i z; rcases dsp u mu with q | q
          · exact absurd q z
          · exact h.ch u q e
    · show (if gw s1.1 w = gw s0.1 w then m.changes else m.changes ++ [(w.1, w.2, gw s0.1 w, gw s1.1 w)]) = _
      rw [List.flatMap_append, h.cs]
      unfold chOf
      simp only [List.flatMap_cons, List.flatMap_nil, List.append_nil]
      split <;> simp
  · rename_i hdue
    have hdue : isDue w ws ed m.changed = false := by simpa using hdue
    unfold isDue at hdue
    rw [Bool.or_eq_false_iff] at hdue
    have hne : w ∉ ed := by simpa using hdue.1
    have hch : ∀ v ∈ ws, tget m.changed (w.1, v) = none ∧ tget m.changed (v, w.2) = none := fun v mv => by
      have h2 := hdue.2
      rw [List.any_eq_false] at h2
      have := h2 _ (List.mem_map.mpr ⟨v, mv, rfl⟩)
      simp at this
      exact this
    have e : (gw s1.1 w, hw s1.2 w) = (gw s0.1 w, hw s0.2 w) := by
      rw [h0, h1, ← bw_eqL (hL hne)]
      refine bw_congr fun v mv => ⟨?_, ?_⟩
      · exact h.ch _ (hd v mv).1 (hch v mv).1
      · exact h.ch _ (hd v mv).2 (hch v mv).2
    injection e with e1 e2
    refine ⟨fun u mu => ?_, fun u mu => ?_, fun u mu => ?_, fun u mu => ?_, fun u mu q => ?_, ?_⟩
    · rcases dsp u mu with z | z
      · rw [z, e1]; exact h.pn w hn
      · exact h.pd u z
    · exact h.pn u fun z => mu (List.mem_append_left _ z)
    · rcases dsp u mu with z | z
      · rw [z, e2]; exact h.mn w hn
      · exact h.md u z
    · exact h.mn u fun z => mu (List.mem_append_left _ z)
    · rcases dsp u mu with z | z
      · rw [z]; exact e1
      · exact h.ch u z q
    · rw [List.flatMap_append, ← h.cs]
      simp [chOf, e1]
def waysOf (ps : List PP) : List PP := ps.flatMap fun p => [p, swp p]
theorem mem_ways {ps : List PP} {w : PP} : w ∈ waysOf ps ↔ w ∈ ps ∨ swp w ∈ ps := by
  unfold waysOf
  rw [List.mem_flatMap]
  constructor
  · rintro ⟨p, m, h⟩
    simp at h
    rcases h with rfl | rfl
    · exact .inl m
    · exact .inr m
  · rintro (h | h)
    · exact ⟨w, h, by simp⟩
    · exact ⟨swp w, h, by simp [swp]⟩
theorem md_take {L0 L1 : Tab (Option Int)} {low : Tab (List Nat)} {found ed : List PP} {s0 s1 : PM} (hO : FoundOk found low) (h0 : ∀ f x, (f, x) ∈ found → FixAt L0 low s0 f x) (h1 : ∀ f x, (f, x) ∈ found → FixAt L1 low s1 f x) (hL : ∀ w, w ∉ ed → gp L0 w.1 w.2 = gp L1 w.1 w.2) : ∀ i, i ≤ found.length → MdInv s0 s1 (waysOf (found.take i)) ((found.take i).foldl (mendStep L1 low ed) ⟨[], [], [], s0.1, s0.2⟩)
  | 0, _ => ⟨by simp [waysOf], fun _ _ => rfl, by simp [waysOf], fun _ _ => rfl, by simp [waysOf], by simp [waysOf]⟩
  | i + 1, hi => by
    have ih := md_take hO h0 h1 hL i (by omega)
    have e : found[i]? = some found[i] := List.getElem?_eq_getElem (by omega)
    generalize found[i] = p at e
    rw [take_foldl e]
    obtain ⟨a, b⟩ := p
    have hpf : (a, b) ∈ found := List.mem_of_getElem? e
    have hsw : (b, a) ∉ found := hO.asy a b hpf
    have hin : ∀ q, q ∈ found.take i → q ∈ found := fun q m => List.mem_of_mem_take m
    have hni : (a, b) ∉ found.take i := by
      intro m
      obtain ⟨j, hj⟩ := List.getElem?_of_mem m
      have hl := (List.getElem?_eq_some_iff.mp hj).1
      rw [List.length_take] at hl
      rw [getElem?_take_lt (by omega)] at hj
      have := (List.getElem?_inj (List.getElem?_eq_some_iff.mp e).1 hO.nd).mp (e.trans hj.symm)
      omega
    have hbef := hO.bef i a b e
    have ew : waysOf (found.take (i + 1)) = (waysOf (found.take i) ++ [(a, b)]) ++ [(b, a)] := by
      rw [List.take_add_one, e]
      unfold waysOf
      rw [List.flatMap_append]
      simp [swp]
    rw [ew]
    have f0 := h0 a b hpf
    have f1 := h1 a b hpf
    have hab : (a, b) ≠ (b, a) := fun z => hsw (z ▸ hpf)
    have es : ∀ m : MendS, mendStep L1 low ed m (a, b) = mendWay L1 (lows low (a, b)) ed (mendWay L1 (lows low (a, b)) ed m (a, b)) (b, a) := fun m => rfl
    rw [es]
    refine md_way (L0 := L0) (md_way (L0 := L0) ih ?_ ?_ ?_ ?_ (hL _)) ?_ ?_ ?_ ?_ (hL _)
    · rw [mem_ways]
      rintro (z | z)
      · exact hni z
      · exact hsw (hin _ z)
    · intro v mv
      have := hbef v mv
      exact ⟨mem_ways.mpr (.inr this.1), mem_ways.mpr (.inl this.2)⟩
    · show (gp s0.1 a b, gm s0.2 a b) = _; rw [f0.p1, f0.m1]
    · show (gp s1.1 a b, gm s1.2 a b) = _; rw [f1.p1, f1.m1]
    · intro z
      rcases List.mem_append.mp z with z | z
      · rw [mem_ways] at z
        rcases z with z | z
        · exact hsw (hin _ z)
        · exact hni z
      · have : (b, a) = (a, b) := by simpa using z
        exact hab this.symm
    · intro v mv
      have := hbef v mv
      exact ⟨List.mem_append_left _ (mem_ways.mpr (.inr this.2)), List.mem_append_left _ (mem_ways.mpr (.inl this.1))⟩
    · show (gp s0.1 b a, gm s0.2 b a) = _; rw [f0.p2, f0.m2]
    · show (gp s1.1 b a, gm s1.2 b a) = _; rw [f1.p2, f1.m2]
/-! ### the changes -/
theorem ch_step {before after : List Row} {x y : Row} {cs : List Change} {k : Nat} (h1 : before[k]? = some x) (h2 : after[k]? = some y) : chStep before after cs k = (cs ++ (if x.2.2.1 = y.2.2.1 then [] else [(y.1, y.2.1, x.2.2.1, y.2.2.1)])) ++ (if x.2.2.2.1 = y.2.2.2.1 then [] else [(y.2.1, y.1, x.2.2.2.1, y.2.2.2.1)]) := by
  unfold chStep
  rw [h1, h2]
  dsimp only
  split <;> split <;> simp
theorem changes_eq {P0 P1 : Tab (Option Int)} {M0 M1 : Tab (Option Nat)} (found : List PP) : changesL (found.map (rowOf P0 M0)) (found.map (rowOf P1 M1)) = (waysOf found).flatMap (chOf (P0, M0) (P1, M1)) := by
  have key : ∀ i, i ≤ found.length → (List.range i).foldl (chStep (found.map (rowOf P0 M0)) (found.map (rowOf P1 M1))) [] = (waysOf (found.take i)).flatMap (chOf (P0, M0) (P1, M1)) := by
    intro i
    induction i with
    | zero => intro _; simp [waysOf]
    | succ i ih =>
      intro hi
      have e : found[i]? = some found[i] := List.getElem?_eq_getElem (by omega)
      rw [List.range_succ, List.foldl_append, ih (by omega)]
      generalize found[i] = p at e
      have e0 : (found.map (rowOf P0 M0))[i]? = some (rowOf P0 M0 p) := by rw [List.getElem?_map, e]; rfl
      have e1 : (found.map (rowOf P1 M1))[i]? = some (rowOf P1 M1 p) := by rw [List.getElem?_map, e]; rfl
      rw [List.foldl_cons, List.foldl_nil, ch_step e0 e1, List.take_add_one, e]
      unfold waysOf
      rw [List.flatMap_append, List.flatMap_append, List.append_assoc]
      congr 1
      unfold chOf rowOf gw swp
      simp only [Option.toList_some, List.flatMap_cons, List.flatMap_nil, List.append_nil]
      congr 1
      · by_cases q : gp P0 p.1 p.2 = gp P1 p.1 p.2
        · rw [if_pos q, if_pos q.symm]
        · rw [if_neg q, if_neg fun z => q z.symm]
      · by_cases q : gp P0 p.2 p.1 = gp P1 p.2 p.1
        · rw [if_pos q, if_pos q.symm]
        · rw [if_neg q, if_neg fun z => q z.symm]
  unfold changesL
  rw [List.length_map, key found.length (Nat.le_refl _), List.take_length]
/-- rows are what the tables tell at the pairs' ways -/
theorem rows_congr {P0 P1 : Tab (Option Int)} {M0 M1 : Tab (Option Nat)} {found : List PP} (h : ∀ w ∈ waysOf found, gw P0 w = gw P1 w ∧ hw M0 w = hw M1 w) : found.map (rowOf P0 M0) = found.map (rowOf P1 M1) := by
  apply List.map_congr_left
  intro p m
  have a := h p (mem_ways.mpr (.inl m))
  have b := h (swp p) (mem_ways.mpr (.inr m))
  unfold gw hw at a
  have b : gp P0 p.2 p.1 = gp P1 p.2 p.1 ∧ gm M0 p.2 p.1 = gm M1 p.2 p.1 := b
  unfold rowOf
  rw [a.1, a.2, b.1, b.2]
theorem fix_congr {L : Tab (Option Int)} {low : Tab (List Nat)} {found : List PP} (hO : FoundOk found low) {s t : PM} (h : ∀ w ∈ waysOf found, gw s.1 w = gw t.1 w ∧ hw s.2 w = hw t.2 w) {f x : Nat} (hm : (f, x) ∈ found) (F : FixAt L low s f x) : FixAt L low t f x := by
  obtain ⟨i, hi⟩ := List.getElem?_of_mem hm
  have hb := hO.bef i f x hi
  have h' : ∀ a b, (a, b) ∈ found ∨ (b, a) ∈ found → gp s.1 a b = gp t.1 a b ∧ gm s.2 a b = gm t.2 a b := fun a b m => h (a, b) (mem_ways.mpr m)
  have e1 : bestWay L s.1 (lows low (f, x)) f x = bestWay L t.1 (lows low (f, x)) f x := bw_congr fun w m => by
    have := hb w m
    exact ⟨(h' f w (.inr (List.mem_of_mem_take this.1))).1, (h' w x (.inl (List.mem_of_mem_take this.2))).1⟩
  have e2 : bestWay L s.1 (lows low (f, x)) x f = bestWay L t.1 (lows low (f, x)) x f := bw_congr fun w m => by
    have := hb w m
    exact ⟨(h' x w (.inr (List.mem_of_mem_take this.2))).1, (h' w f (.inl (List.mem_of_mem_take this.1))).1⟩
  have a := h' f x (.inl hm)
  have b := h' x f (.inr hm)
  exact ⟨by rw [← a.1, F.p1, e1], by rw [← a.2, F.m1, e1], by rw [← b.1, F.p2, e2], by rw [← b.2, F.m2, e2]⟩
end Ov

/-! ## M18 -/
/-! The nets of the law: links in order, each once. No library. -/
namespace Ov
open T
abbrev PrOk (p : Option Int) : Prop := ∀ q, p = some q → 1 ≤ q ∧ q ≤ 1000000
def ltP (x y : PP) : Prop := x.1 < y.1 ∨ (x.1 = y.1 ∧ x.2 < y.2)
abbrev lkey (l : Link) : PP := (l.1, l.2.1)
structure LawNet (N : Net) : Prop where
  n : N.1 ≤ 14
  lt : ∀ l ∈ N.2, l.1 < l.2.1 ∧ l.2.1 < N.1
  srt : N.2.Pairwise fun l m => ltP (lkey l) (lkey m)
  pr : ∀ l ∈ N.2, PrOk l.2.2.1 ∧ PrOk l.2.2.2
theorem ltP_ne {x y : PP} (h : ltP x y) : x ≠ y := fun z => by
  subst z
  unfold ltP at h
  omega
theorem LawNet.keys_nd {N : Net} (h : LawNet N) : (N.2.map lkey).Nodup := by
  unfold List.Nodup
  rw [List.pairwise_map]
  exact h.srt.imp fun h => ltP_ne h
theorem LawNet.len {N : Net} (h : LawNet N) : N.2.length ≤ 196 := by
  have := pp_len (n := N.1) h.keys_nd fun p m => by
    obtain ⟨l, ml, rfl⟩ := List.mem_map.mp m
    have := h.lt l ml
    show l.1 < N.1 ∧ l.2.1 < N.1
    omega
  rw [List.length_map] at this
  exact Nat.le_trans this (Nat.mul_le_mul h.n h.n)
theorem LawNet.ok {N : Net} (h : LawNet N) : NetOk N := ⟨by have := h.n; omega, by have := h.len; omega, fun l m => by have := h.lt l m; omega, fun l m => by have := h.lt l m; omega⟩
theorem LawNet.small {N : Net} (h : LawNet N) : N.1 ≤ 200 := by have := h.n; omega
/-! ### the table of the links -/
def waysT (ls : List Link) : Tab (Option Int) := ls.flatMap fun l => [((l.1, l.2.1), l.2.2.1), ((l.2.1, l.1), l.2.2.2)]
theorem tput_new {κ α : Type} [DecidableEq κ] {t : List (κ × α)} {k : κ} (x : α) (h : k ∉ t.map (·.1)) : tput t k x = t ++ [(k, x)] := by
  unfold tput
  rw [if_neg]
  intro z
  obtain ⟨p, m, e⟩ := List.any_eq_true.mp z
  exact h (List.mem_map.mpr ⟨p, m, of_decide_eq_true e⟩)
theorem fold_new {κ α : Type} [DecidableEq κ] : ∀ (ps t : List (κ × α)), ((t ++ ps).map (·.1)).Nodup → ps.foldl (fun t p => tput t p.1 p.2) t = t ++ ps
  | [], t, _ => by simp
  | p :: ps, t, nd => by
    have hn : p.1 ∉ t.map (·.1) := fun m => by
      rw [List.map_append, List.nodup_append] at nd
      exact nd.2.2 _ m _ (List.mem_map.mpr ⟨p, by simp, rfl⟩) rfl
    rw [List.foldl_cons, tput_new _ hn, fold_new ps (t ++ [p]) (by simpa using nd)]
    simp
theorem link_fold (ls : List Link) : linkPrices ls = (waysT ls).foldl (fun t p => tput t p.1 p.2) [] := by
  unfold linkPrices waysT
  rw [List.foldl_flatMap]
  rfl
theorem ways_keys (ls : List Link) : (waysT ls).map (·.1) = waysOf (ls.map lkey) := by
  unfold waysT waysOf
  rw [List.map_flatMap, List.flatMap_map]
  rfl
theorem LawNet.ways_nd {N : Net} (h : LawNet N) : ((waysT N.2).map (·.1)).Nodup := by
  rw [ways_keys]
  have key : ∀ ps : List PP, ps.Nodup → (∀ p ∈ ps, p.1 < p.2) → (waysOf ps).Nodup := by
    intro ps
    induction ps with
    | nil => intro _ _; simp [waysOf]
    | cons p ps ih =>
      intro nd hl
      have nd2 := List.nodup_cons.mp nd
      have e : waysOf (p :: ps) = [p, swp p] ++ waysOf ps := rfl
      have hp := hl p (by simp)
      rw [e, List.nodup_append]
      refine ⟨?_, ih nd2.2 fun q m => hl q (List.mem_cons_of_mem _ m), ?_⟩
      · have : p ≠ swp p := fun z => by
          have := congrArg Prod.fst z
          unfold swp at this
          dsimp only at this
          omega
        simp [this]
      · intro a ha b hb z
        subst z
        rw [mem_ways] at hb
        have ha : a = p ∨ a = swp p := by simpa using ha
        rcases ha with rfl | rfl
        · rcases hb with m | m
          · exact nd2.1 m
          · have := hl _ (List.mem_cons_of_mem _ m)
            unfold swp at this
            dsimp only at this
            omega
        · rcases hb with m | m
          · have := hl _ (List.mem_cons_of_mem _ m)
            unfold swp at this
            dsimp only at this
            omega
          · exact nd2.1 m
  refine key _ h.keys_nd fun p m => ?_
  obtain ⟨l, ml, rfl⟩ := List.mem_map.mp m
  exact (h.lt l ml).1
theorem LawNet.links {N : Net} (h : LawNet N) : linkPrices N.2 = waysT N.2 := by
  rw [link_fold, fold_new _ [] (by simpa using h.ways_nd)]
  simp
theorem mem_waysT {ls : List Link} {k : PP} {v : Option Int} : (k, v) ∈ waysT ls ↔ ∃ l ∈ ls, (k = (l.1, l.2.1) ∧ v = l.2.2.1) ∨ (k = (l.2.1, l.1) ∧ v = l.2.2.2) := by
  unfold waysT
  rw [List.mem_flatMap]
  simp
theorem LawNet.get {N : Net} (h : LawNet N) {k : PP} {v : Option Int} : tget (linkPrices N.2) k = some v ↔ ∃ l ∈ N.2, (k = (l.1, l.2.1) ∧ v = l.2.2.1) ∨ (k = (l.2.1, l.1) ∧ v = l.2.2.2) := by
  rw [h.links, ← mem_waysT]
  exact ⟨tget_mem, mem_tget h.ways_nd⟩
theorem LawNet.wN_iff {N : Net} (h : LawNet N) {x y : Nat} {p : Int} : wN N x y = some p ↔ ∃ l ∈ N.2, (x = l.1 ∧ y = l.2.1 ∧ l.2.2.1 = some p) ∨ (x = l.2.1 ∧ y = l.1 ∧ l.2.2.2 = some p) := by
  have e : wN N x y = some p ↔ tget (linkPrices N.2) (x, y) = some (some p) := by
    unfold wN gp
    cases tget (linkPrices N.2) (x, y) with
    | none => simp
    | some v => simp
  rw [e, h.get]
  constructor
  · rintro ⟨l, m, ⟨a, b⟩ | ⟨a, b⟩⟩
    · injection a with a1 a2; exact ⟨l, m, .inl ⟨a1, a2, b.symm⟩⟩
    · injection a with a1 a2; exact ⟨l, m, .inr ⟨a1, a2, b.symm⟩⟩
  · rintro ⟨l, m, ⟨a, b, c⟩ | ⟨a, b, c⟩⟩
    · exact ⟨l, m, .inl ⟨by rw [a, b], c.symm⟩⟩
    · exact ⟨l, m, .inr ⟨by rw [a, b], c.symm⟩⟩
theorem LawNet.pos {N : Net} (h : LawNet N) (x y : Nat) (p : Int) (e : wN N x y = some p) : 0 < p := by
  obtain ⟨l, m, ⟨_, _, q⟩ | ⟨_, _, q⟩⟩ := h.wN_iff.mp e
  · have := (h.pr l m).1 p q; omega
  · have := (h.pr l m).2 p q; omega
theorem LawNet.wlt {N : Net} (h : LawNet N) (x y : Nat) (p : Int) (e : wN N x y = some p) : y < N.1 := by
  obtain ⟨l, m, ⟨_, a, _⟩ | ⟨_, a, _⟩⟩ := h.wN_iff.mp e
  · have := h.lt l m; omega
  · have := h.lt l m; omega
theorem LawNet.wne {N : Net} (h : LawNet N) (x y : Nat) (p : Int) (e : wN N x y = some p) : x ≠ y := by
  obtain ⟨l, m, ⟨b, a, _⟩ | ⟨b, a, _⟩⟩ := h.wN_iff.mp e
  · have := h.lt l m; omega
  · have := h.lt l m; omega
/-! ### the law's prices, the open ways, the links read off -/
theorem lp_fold (ls : List Link) : lawPrices ls = (waysT ls).foldl (fun t p => match p.2 with | some q => tput t p.1 q | none => t) [] := by
  unfold lawPrices waysT
  rw [List.foldl_flatMap]
  rfl
theorem lp_get : ∀ (ps : Tab (Option Int)) (t : Tab Int) (k : PP), (ps.map (·.1)).Nodup → (∀ p ∈ ps, tget t p.1 = none) → tget (ps.foldl (fun t p => match p.2 with | some q => tput t p.1 q | none => t) t) k = match tget ps k with | some v => v | none => tget t k
  | [], t, k, _, _ => rfl
  | p :: ps, t, k, nd, h => by
    rw [List.map_cons, List.nodup_cons] at nd
    rw [List.foldl_cons, tget_cons]
    have hp := h p (by simp)
    have hne : ∀ q ∈ ps, q.1 ≠ p.1 := fun q m z => nd.1 (by rw [← z]; exact List.mem_map.mpr ⟨q, m, rfl⟩)
    have hk : k = p.1 → tget ps k = none := fun e => by
      cases q : tget ps k with
      | none => rfl
      | some v => exact absurd e (hne _ (tget_mem q))
    obtain ⟨key, v⟩ := p
    cases v with
    | none =>
      dsimp only
      rw [lp_get ps t k nd.2 fun q m => h q (List.mem_cons_of_mem _ m)]
      by_cases e : key = k
      · rw [if_pos e, hk e.symm, ← e]; exact hp
      · rw [if_neg e]
    | some v =>
      dsimp only
      rw [lp_get ps _ k nd.2 fun q m => by rw [tget_tput_ne _ _ (hne q m)]; exact h q (List.mem_cons_of_mem _ m)]
      by_cases e : key = k
      · rw [if_pos e, hk e.symm, ← e]
        dsimp only
        rw [tget_tput_same]
      · rw [if_neg e]
        rw [tget_tput_ne _ _ (fun z => e z.symm)]
theorem LawNet.lawp {N : Net} (h : LawNet N) (a b : Nat) : tget (lawPrices N.2) (a, b) = wN N a b := by
  rw [lp_fold, lp_get _ _ _ h.ways_nd (fun _ _ => rfl)]
  unfold wN gp
  rw [h.links]
  cases tget (waysT N.2) (a, b) <;> rfl
theorem open_mem (w : Nat × Nat × Int) : ∀ (ls : List Link) (ws : List (Nat × Nat × Int)), w ∈ ls.foldl openStep ws ↔ w ∈ ws ∨ ∃ l ∈ ls, (w.1 = l.1 ∧ w.2.1 = l.2.1 ∧ l.2.2.1 = some w.2.2) ∨ (w.1 = l.2.1 ∧ w.2.1 = l.1 ∧ l.2.2.2 = some w.2.2)
  | [], ws => by simp
  | l :: ls, ws => by
    rw [List.foldl_cons, open_mem w ls]
    have key : w ∈ openStep ws l ↔ w ∈ ws ∨ (w.1 = l.1 ∧ w.2.1 = l.2.1 ∧ l.2.2.1 = some w.2.2) ∨ (w.1 = l.2.1 ∧ w.2.1 = l.1 ∧ l.2.2.2 = some w.2.2) := by
      obtain ⟨a, b, p, q⟩ := l
      obtain ⟨x, y, z⟩ := w
      unfold openStep
      cases p <;> cases q <;> dsimp only <;> simp [Prod.ext_iff, and_assoc, or_assoc, eq_comm]
    rw [key]
    constructor
    · rintro ((a | a) | ⟨m, hm, a⟩)
      · exact .inl a
      · exact .inr ⟨l, by simp, a⟩
      · exact .inr ⟨m, List.mem_cons_of_mem _ hm, a⟩
    · rintro (a | ⟨m, hm, a⟩)
      · exact .inl (.inl a)
      · rcases List.mem_cons.mp hm with e | hm
        · subst e; exact .inl (.inr a)
        · exact .inr ⟨m, hm, a⟩
theorem LawNet.open_iff {N : Net} (h : LawNet N) (w : Nat × Nat × Int) : w ∈ openWays N.2 ↔ wN N w.1 w.2.1 = some w.2.2 := by
  unfold openWays
  rw [open_mem, h.wN_iff]
  simp
theorem find_nd {ls : List Link} {l : Link} {k : PP} (nd : (ls.map lkey).Nodup) (m : l ∈ ls) (e : lkey l = k) : (ls.find? fun l => decide ((l.1, l.2.1) = k)) = some l := by
  induction ls with
  | nil => cases m
  | cons q ls ih =>
    rw [List.map_cons, List.nodup_cons] at nd
    rw [List.find?_cons]
    rcases List.mem_cons.mp m with z | m
    · rw [← z, show decide ((l.1, l.2.1) = k) = true from decide_eq_true e]
    · rw [show decide ((q.1, q.2.1) = k) = false from decide_eq_false fun z => nd.1 (by rw [show lkey q = k from z, ← e]; exact List.mem_map.mpr ⟨l, m, rfl⟩)]
      exact ih nd.2 m
theorem LawNet.price {N : Net} (h : LawNet N) {x y : Nat} {p : Int} (e : wN N x y = some p) : priceOf N.2 x y = some p := by
  obtain ⟨l, m, ⟨a, b, c⟩ | ⟨a, b, c⟩⟩ := h.wN_iff.mp e
  · have hl := (h.lt l m).1
    unfold priceOf linkAt
    rw [find_nd h.keys_nd m (show lkey l = keyAt x y by unfold keyAt lkey; rw [if_neg (by omega), if_pos (by omega), a, b])]
    dsimp only
    unfold dirPrice
    rw [if_pos (by omega)]; exact c
  · have hl := (h.lt l m).1
    unfold priceOf linkAt
    rw [find_nd h.keys_nd m (show lkey l = keyAt x y by unfold keyAt lkey; rw [if_pos (by omega), if_neg (by omega), a, b])]
    dsimp only
    unfold dirPrice
    rw [if_neg (by omega)]; exact c
theorem LawNet.road {N : Net} (h : LawNet N) : ∀ {l : List Nat} {x z : Nat} {c : Int}, Path (wN N) x l z c → roadSumL N.2 (x :: l) = some c
  | [], x, z, c, ⟨_, e⟩ => by subst e; rfl
  | y :: l, x, z, c, ⟨p, d, e1, e2, e3⟩ => by
    unfold roadSumL
    rw [h.price e1, h.road e2, e3]; rfl
/-! ### the least sums -/
section
variable {N : Net} (h : LawNet N)
include h
theorem LawNet.sums {x z : Nat} (hx : x < N.1) (hz : z < N.1) : Least (Walk (wN N) x z) (tget (lawSums N) (x, z)) := lawSums_least h.pos h.wlt h.wne h.lawp hx hz
theorem LawNet.paper {x : Nat} (hx : x < N.1) (z : Nat) : Least (Walk (wN N) x z) (oval (paperL N x) z) := paper_least hx h.pos h.wlt (fun w m => (h.open_iff w).mp m) (fun a b q e => (h.open_iff (a, b, q)).mpr e) z
end
/-! ### a price is set -/
theorem tput_map {t : Tab (Option Int)} {k : PP} (x : Option Int) (h : (tget t k).isSome = true) : tput t k x = t.map fun p => if p.1 = k then (p.1, x) else p := by
  unfold tput; rw [tany, if_pos h]
theorem set_ways (a b : Nat) (p : Option Int) (ls : List Link) : waysT (ls.map (setLink a b p)) = (waysT ls).map fun q => if q.1 = (a, b) then (q.1, p) else q := by
  unfold waysT
  rw [List.flatMap_map, List.map_flatMap]
  congr 1
  funext l
  unfold setLink
  simp only [List.map_cons, List.map_nil]
  congr 1
  · split <;> rfl
  · congr 1
    by_cases e : (l.1, l.2.1) = (b, a)
    · rw [if_pos e, if_pos (by injection e with e1 e2; rw [e1, e2])]
    · rw [if_neg e, if_neg fun z => e (by injection z with e1 e2; rw [e1, e2])]
theorem set_keys (a b : Nat) (p : Option Int) (ls : List Link) : (ls.map (setLink a b p)).map lkey = ls.map lkey := by
  rw [List.map_map]; rfl
theorem LawNet.set {N : Net} (h : LawNet N) {p : Option Int} (hp : PrOk p) (a b : Nat) : LawNet (lawSet N a b p) where
  n := h.n
  lt := fun l m => by
    obtain ⟨q, hq, rfl⟩ := List.mem_map.mp m
    exact h.lt q hq
  srt := by
    show (N.2.map (setLink a b p)).Pairwise _
    rw [List.pairwise_map]
    exact h.srt.imp fun h => h
  pr := fun l m => by
    obtain ⟨q, hq, rfl⟩ := List.mem_map.mp m
    have := h.pr q hq
    unfold setLink
    constructor
    · show PrOk (if _ then _ else _)
      split
      · exact hp
      · exact this.1
    · show PrOk (if _ then _ else _)
      split
      · exact hp
      · exact this.2
theorem LawNet.set_links {N : Net} (h : LawNet N) {p : Option Int} (hp : PrOk p) {a b : Nat} (hk : Has (linkPrices N.2) a b) : linkPrices (lawSet N a b p).2 = tput (linkPrices N.2) (a, b) p := by
  rw [(h.set hp a b).links]
  show waysT (N.2.map (setLink a b p)) = _
  rw [set_ways, h.links, tput_map]
  rw [← h.links]; exact hk
/-- the same pairs -/
def SameEnds (N M : Net) : Prop := N.1 = M.1 ∧ N.2.map lkey = M.2.map lkey
theorem SameEnds.refl (N : Net) : SameEnds N N := ⟨rfl, rfl⟩
theorem SameEnds.trans {N M L : Net} (h : SameEnds N M) (k : SameEnds M L) : SameEnds N L := ⟨h.1.trans k.1, h.2.trans k.2⟩
theorem SameEnds.symm {N M : Net} (h : SameEnds N M) : SameEnds M N := ⟨h.1.symm, h.2.symm⟩
theorem same_set (N : Net) (a b : Nat) (p : Option Int) : SameEnds N (lawSet N a b p) := ⟨rfl, (set_keys a b p N.2).symm⟩
theorem SameEnds.pairs {N M : Net} (h : SameEnds N M) (order : List Nat) : pairsL N order = pairsL M order := by
  have e : joinedL N = joinedL M := by
    have key : ∀ (ls : List Link) (r : List (List Nat)), ls.foldl joinStep r = (ls.map lkey).foldl (fun r p => ains (ains r p.1 p.2) p.2 p.1) r := fun ls r => by
      rw [List.foldl_map]; rfl
    unfold joinedL
    rw [key, key, h.1, h.2]
  unfold pairsL upperL
  rw [e, h.1]
theorem SameEnds.keys {N M : Net} (h : SameEnds N M) : (waysT N.2).map (·.1) = (waysT M.2).map (·.1) := by rw [ways_keys, ways_keys, h.2]
/-! ### the net told by a session -/
theorem leP_iff' {x y : PP} : leP x y = true ↔ x.1 < y.1 ∨ (x.1 = y.1 ∧ x.2 ≤ y.2) := by
  unfold leP
  simp
theorem LawNet.told {N : Net} (h : LawNet N) : ((((sortP ((linkPrices N.2).map (·.1))).filter fun p => decide (p.1 < p.2)).map fun p => ((p.1, p.2, gp (linkPrices N.2) p.1 p.2, gp (linkPrices N.2) p.2 p.1) : Link))) = N.2 := by
  have hk : (linkPrices N.2).map (·.1) = waysOf (N.2.map lkey) := by rw [h.links, ways_keys]
  have hf : (waysOf (N.2.map lkey)).filter (fun p => decide (p.1 < p.2)) = N.2.map lkey := by
    have key : ∀ ps : List PP, (∀ p ∈ ps, p.1 < p.2) → (waysOf ps).filter (fun p => decide (p.1 < p.2)) = ps := by
      intro ps
      induction ps with
      | nil => intro _; rfl
      | cons p ps ih =>
        intro hl
        have hp := hl p (by simp)
        have e : waysOf (p :: ps) = p :: swp p :: waysOf ps := rfl
        rw [e, List.filter_cons, if_pos (decide_eq_true hp), List.filter_cons, if_neg (by unfold swp; simp; omega), ih fun q m => hl q (List.mem_cons_of_mem _ m)]
    refine key _ fun p m => ?_
    obtain ⟨l, ml, rfl⟩ := List.mem_map.mp m
    exact (h.lt l ml).1
  have hs : (sortP ((linkPrices N.2).map (·.1))).filter (fun p => decide (p.1 < p.2)) = N.2.map lkey := by
    refine List.Perm.eq_of_pairwise (le := fun a b => leP a b = true) (fun a b _ _ h1 h2 => ?_) ?_ ?_ ?_
    · rw [leP_iff'] at h1 h2
      exact Prod.ext (by omega) (by omega)
    · refine List.Pairwise.filter _ ?_
      unfold sortP
      refine List.pairwise_mergeSort (fun a b c => ?_) (fun a b => ?_) _
      · simp only [leP_iff']; omega
      · rw [Bool.or_eq_true, leP_iff', leP_iff']; omega
    · rw [List.pairwise_map]
      refine h.srt.imp fun {a b} q => ?_
      rw [leP_iff']
      unfold ltP at q
      omega
    · rw [← hf, hk]
      exact (List.mergeSort_perm _ _).filter _
  rw [hs, List.map_map]
  conv => rhs; rw [← List.map_id N.2]
  refine List.map_congr_left fun l m => ?_
  have g1 : tget (linkPrices N.2) (l.1, l.2.1) = some l.2.2.1 := h.get.mpr ⟨l, m, .inl ⟨rfl, rfl⟩⟩
  have g2 : tget (linkPrices N.2) (l.2.1, l.1) = some l.2.2.2 := h.get.mpr ⟨l, m, .inr ⟨rfl, rfl⟩⟩
  show (l.1, l.2.1, gp (linkPrices N.2) l.1 l.2.1, gp (linkPrices N.2) l.2.1 l.1) = l
  unfold gp
  rw [g1, g2]; rfl
end Ov

/-! ## M19 -/
/-! A session keeps the net's filling. No library. -/
namespace Ov
open T
/-- what a session holds that keeps net N -/
structure SInv (N : Net) (order : List Nat) (S : Ses) : Prop where
  count : S.count = N.1
  ord : S.order = order
  links : S.links = linkPrices N.2
  prs : S.pairs = pairsL N order
  low : S.lower = trianglesL (pairsL N order) order
  val : ∀ w ∈ waysOf (pairsL N order), gw S.prices w = gw (fillPM N order).1 w ∧ hw S.middles w = hw (fillPM N order).2 w
  p1 : ∀ p ∈ pairsL N order, Has S.prices p.1 p.2
  p2 : ∀ p ∈ pairsL N order, Has S.prices p.2 p.1
  m1 : ∀ p ∈ pairsL N order, Has S.middles p.1 p.2
  m2 : ∀ p ∈ pairsL N order, Has S.middles p.2 p.1
  lp : S.prices.length ≤ 100000
  lm : S.middles.length ≤ 100000
section
variable {N : Net} {order : List Nat} (h : LawNet N) (ho : IsOrder N.1 order)
include h ho
theorem pairs_small : (pairsL N order).length ≤ 200 := by
  have := pairs_len h.ok ho
  exact Nat.le_trans this (Nat.le_trans (Nat.mul_le_mul h.n h.n) (by decide))
theorem links_small : (linkPrices N.2).length ≤ 400 := by
  have e : (linkPrices N.2).length = ((linkPrices N.2).map (·.1)).length := by rw [List.length_map]
  have hl := h.len
  rw [e, h.links, ways_keys]
  have : ∀ ps : List PP, (waysOf ps).length = 2 * ps.length := by
    intro ps
    induction ps with
    | nil => rfl
    | cons p ps ih =>
      have e : waysOf (p :: ps) = p :: swp p :: waysOf ps := rfl
      rw [e, List.length_cons, List.length_cons, List.length_cons, ih]; omega
  rw [this, List.length_map]
  omega
theorem SInv.ok {S : Ses} (I : SInv N order S) : SesOk S where
  pl := by rw [I.prs]; have := pairs_small h ho; omega
  lk := by rw [I.links]; have := links_small h ho; omega
  low := by
    rw [I.prs, I.low]
    exact (tri_some (tri_ok h.ok ho h.small)).ks
  wl := fun p l e => by
    rw [I.low] at e
    have := (tri_some (tri_ok h.ok ho h.small)).le p l e
    have hn : order.length ≤ 14 := by rw [ho.len]; exact h.n
    have h1 : order.length * order.length ≤ 14 * 14 := Nat.mul_le_mul hn hn
    have h2 : order.length * (order.length * order.length) ≤ 14 * (14 * 14) := Nat.mul_le_mul hn h1
    omega
  ws := fun p m w hw => by
    rw [I.prs] at m ⊢
    rw [I.low] at hw
    have := (lows_mem h.ok ho h.small (f := p.1) (s := p.2)).mp hw
    exact ⟨this.1, this.2.1⟩
  p1 := by rw [I.prs]; exact I.p1
  p2 := by rw [I.prs]; exact I.p2
  m1 := by rw [I.prs]; exact I.m1
  m2 := by rw [I.prs]; exact I.m2
  lp := I.lp
  lm := I.lm
theorem SInv.fill {S : Ses} (I : SInv N order S) : S.fillingL = fillL N order := by
  unfold Ses.fillingL fillL
  rw [I.prs]
  exact rows_congr I.val
theorem SInv.net {S : Ses} (I : SInv N order S) : S.netL = N := by
  unfold Ses.netL
  rw [I.links, I.count, h.told]
theorem SInv.netS {S : Ses} (I : SInv N order S) : NetS S where
  l := by rw [I.links]; have := links_small h ho; omega
  ks := fun p m => by
    rw [I.links] at m ⊢
    have hk : (linkPrices N.2).map (·.1) = waysOf (N.2.map lkey) := by rw [h.links, ways_keys]
    rw [hk, mem_ways] at m
    have key : ∀ q : PP, q ∈ N.2.map lkey → Has (linkPrices N.2) q.1 q.2 ∧ Has (linkPrices N.2) q.2 q.1 := fun q mq => by
      obtain ⟨l, ml, rfl⟩ := List.mem_map.mp mq
      have g1 : tget (linkPrices N.2) (l.1, l.2.1) = some l.2.2.1 := h.get.mpr ⟨l, ml, .inl ⟨rfl, rfl⟩⟩
      have g2 : tget (linkPrices N.2) (l.2.1, l.1) = some l.2.2.2 := h.get.mpr ⟨l, ml, .inr ⟨rfl, rfl⟩⟩
      unfold Has lkey
      exact ⟨by rw [g1]; rfl, by rw [g2]; rfl⟩
    rcases m with m | m
    · exact key p m
    · exact (key (swp p) m).symm
end
/-! ### mending keeps the keys -/
structure MdK (P0 : Tab (Option Int)) (M0 : Tab (Option Nat)) (m : MendS) (c : Nat) : Prop where
  pk : m.prices.map (·.1) = P0.map (·.1)
  qk : m.middles.map (·.1) = M0.map (·.1)
  lk : m.looked.length ≤ c
theorem has_keys {α β : Type} {t : Tab α} {u : Tab β} (e : t.map (·.1) = u.map (·.1)) {x y : Nat} (h : Has u x y) : Has t x y := by
  unfold Has at h ⊢
  obtain ⟨v, hv⟩ := Option.isSome_iff_exists.mp h
  have m : (x, y) ∈ t.map (·.1) := by rw [e]; exact List.mem_map.mpr ⟨_, tget_mem hv, rfl⟩
  obtain ⟨p, hp, ep⟩ := List.mem_map.mp m
  rw [← tany]
  exact List.any_eq_true.mpr ⟨p, hp, decide_eq_true ep⟩
theorem mdk_way {P0 : Tab (Option Int)} {M0 : Tab (Option Nat)} {m : MendS} {c : Nat} (h : MdK P0 M0 m c) {L : Tab (Option Int)} {ws : List Nat} {ed : List PP} {w : PP} (hp : Has P0 w.1 w.2) (hm : Has M0 w.1 w.2) : MdK P0 M0 (mendWay L ws ed m w) (c + 1) := by
  unfold mendWay
  split
  · dsimp only
    refine ⟨?_, ?_, ?_⟩
    · rw [tput_keys _ (has_keys h.pk hp)]; exact h.pk
    · rw [tput_keys _ (has_keys h.qk hm)]; exact h.qk
    · have := h.lk; simp; omega
  · exact ⟨h.pk, h.qk, by have := h.lk; omega⟩
theorem mdk_fold {P0 : Tab (Option Int)} {M0 : Tab (Option Nat)} {L : Tab (Option Int)} {low : Tab (List Nat)} {ed : List PP} : ∀ (ps : List PP) (m : MendS) (c : Nat), MdK P0 M0 m c → (∀ p ∈ ps, Has P0 p.1 p.2 ∧ Has P0 p.2 p.1 ∧ Has M0 p.1 p.2 ∧ Has M0 p.2 p.1) → MdK P0 M0 (ps.foldl (mendStep L low ed) m) (c + 2 * ps.length)
  | [], m, c, h, _ => by simpa using h
  | p :: ps, m, c, h, hp => by
    rw [List.foldl_cons, List.length_cons]
    obtain ⟨a, b, d, e⟩ := hp p (by simp)
    have := mdk_fold (L := L) (low := low) (ed := ed) ps (mendStep L low ed m p) (c + 1 + 1) (mdk_way (w := (p.2, p.1)) (mdk_way h a d) b e) fun q mq => hp q (List.mem_cons_of_mem _ mq)
    exact ⟨this.pk, this.qk, by have := this.lk; omega⟩
section
variable {N M : Net} {order : List Nat} (hN : LawNet N) (hM : LawNet M) (hs : SameEnds N M) (ho : IsOrder N.1 order)
include hN hM hs ho
/-- other links, mended: the filling of the other net; what changed is told -/
theorem SInv.mend {S : Ses} (I : SInv N order S) {L : Tab (Option Int)} {hi : List (List Edit)} {ed : List PP} (hL : L = linkPrices M.2) (he : ∀ w, w ∉ ed → gp (linkPrices N.2) w.1 w.2 = gp (linkPrices M.2) w.1 w.2) :
    SInv M order (Ses.mended { S with links := L, history := hi } ed) ∧ (Ov.mend { S with links := L, history := hi } ed).changes = changesL (fillL N order) (fillL M order) ∧ (Ses.mended { S with links := L, history := hi } ed).looked.length ≤ 1000 := by
  have hoM : IsOrder M.1 order := by rw [← hs.1]; exact ho
  have hpr : pairsL M order = pairsL N order := (hs.pairs order).symm
  have fO := found_ok hN.ok ho hN.small
  have f0 : ∀ f x, (f, x) ∈ pairsL N order → FixAt (linkPrices N.2) (trianglesL (pairsL N order) order) (S.prices, S.middles) f x := fun f x m => fix_congr fO (fun w mw => by have := I.val w mw; exact ⟨this.1.symm, this.2.symm⟩) m (fix_pairs hN.ok ho hN.small m)
  have f1 : ∀ f x, (f, x) ∈ pairsL N order → FixAt (linkPrices M.2) (trianglesL (pairsL N order) order) (fillPM M order) f x := fun f x m => by
    have := fix_pairs hM.ok hoM hM.small (f := f) (x := x) (by rw [hpr]; exact m)
    rw [hpr] at this
    exact this
  have D := md_take (ed := ed) fO f0 f1 he (pairsL N order).length (Nat.le_refl _)
  rw [List.take_length] at D
  have em : Ov.mend { S with links := L, history := hi } ed = (pairsL N order).foldl (mendStep (linkPrices M.2) (trianglesL (pairsL N order) order) ed) ⟨[], [], [], S.prices, S.middles⟩ := by
    unfold Ov.mend
    dsimp only
    rw [I.prs, I.low, hL]
  have K := mdk_fold (P0 := S.prices) (M0 := S.middles) (L := linkPrices M.2) (low := trianglesL (pairsL N order) order) (ed := ed) (pairsL N order) ⟨[], [], [], S.prices, S.middles⟩ 0 ⟨rfl, rfl, by simp⟩ fun p m => ⟨I.p1 p m, I.p2 p m, I.m1 p m, I.m2 p m⟩
  rw [← em] at D K
  have hpl := pairs_small hN ho
  have kl1 : (Ov.mend { S with links := L, history := hi } ed).prices.length = S.prices.length := by
    have := congrArg List.length K.pk
    rwa [List.length_map, List.length_map] at this
  have kl2 : (Ov.mend { S with links := L, history := hi } ed).middles.length = S.middles.length := by
    have := congrArg List.length K.qk
    rwa [List.length_map, List.length_map] at this
  refine ⟨⟨by rw [← hs.1]; exact I.count, I.ord, hL, by rw [hpr]; exact I.prs, by rw [hpr]; exact I.low, fun w mw => ?_, fun p m => ?_, fun p m => ?_, fun p m => ?_, fun p m => ?_, ?_, ?_⟩, ?_, ?_⟩
  · rw [hpr] at mw; exact ⟨D.pd w mw, D.md w mw⟩
  · rw [hpr] at m; exact has_keys K.pk (I.p1 p m)
  · rw [hpr] at m; exact has_keys K.pk (I.p2 p m)
  · rw [hpr] at m; exact has_keys K.qk (I.m1 p m)
  · rw [hpr] at m; exact has_keys K.qk (I.m2 p m)
  · show (Ov.mend { S with links := L, history := hi } ed).prices.length ≤ _
    rw [kl1]; exact I.lp
  · show (Ov.mend { S with links := L, history := hi } ed).middles.length ≤ _
    rw [kl2]; exact I.lm
  · rw [D.cs, ← I.fill hN ho]
    unfold Ses.fillingL fillL
    rw [hpr, I.prs, changes_eq]
  · show (Ov.mend { S with links := L, history := hi } ed).looked.length ≤ _
    have := K.lk
    omega
end
/-! ### edits -/
def lawEdits (N : Net) (es : List Edit) : Net := es.foldl (fun N e => lawSet N e.1 e.2.1 e.2.2) N
theorem edits_ok : ∀ {es : List Edit} {N : Net}, LawNet N → (∀ e ∈ es, PrOk e.2.2 ∧ Has (linkPrices N.2) e.1 e.2.1) → LawNet (lawEdits N es) ∧ SameEnds N (lawEdits N es) ∧ ∀ acc, linkPrices (lawEdits N es).2 = (es.foldl setEdit (acc, linkPrices N.2)).2
  | [], N, h, _ => ⟨h, .refl N, fun _ => rfl⟩
  | e :: es, N, h, he => by
    have h1 := he e (by simp)
    have hl := h.set_links h1.1 h1.2
    have ih := edits_ok (es := es) (h.set h1.1 e.1 e.2.1) fun d m => by
      have := he d (List.mem_cons_of_mem _ m)
      exact ⟨this.1, by rw [hl]; exact has_tput (.inl this.2)⟩
    refine ⟨ih.1, (same_set N _ _ _).trans ih.2.1, fun acc => ?_⟩
    rw [List.foldl_cons]
    have := ih.2.2 (setEdit (acc, linkPrices N.2) e).1
    rw [hl] at this
    exact this
theorem set_gp {x y : Nat} : ∀ (es : List Edit) (s : List Edit × Tab (Option Int)), (x, y) ∉ editsAt es → gp (es.foldl setEdit s).2 x y = gp s.2 x y
  | [], _, _ => rfl
  | e :: es, s, h => by
    unfold editsAt at h
    rw [List.map_cons, List.mem_cons, not_or] at h
    rw [List.foldl_cons, set_gp es _ h.2]
    show gp (tput s.2 (e.1, e.2.1) e.2.2) x y = _
    rw [gp_tput, if_neg h.1]
/-- tables with the same keys, each once, and the same values -/
theorem tab_ext {α : Type} : ∀ {t u : Tab α}, (t.map (·.1)).Nodup → t.map (·.1) = u.map (·.1) → (∀ k, tget t k = tget u k) → t = u
  | [], u, _, e, _ => by
    cases u with
    | nil => rfl
    | cons _ _ => cases e
  | p :: t, u, nd, e, h => by
    cases u with
    | nil => cases e
    | cons q u =>
      rw [List.map_cons, List.map_cons] at e
      injection e with e1 e2
      have h0 := h p.1
      rw [tget_cons, tget_cons, if_pos rfl, if_pos e1.symm] at h0
      injection h0 with h0
      have epq : p = q := Prod.ext e1 h0
      rw [List.map_cons, List.nodup_cons] at nd
      rw [epq, tab_ext nd.2 e2 fun k => ?_]
      by_cases g : p.1 = k
      · have hn : ∀ v : Tab α, v.map (·.1) = t.map (·.1) → tget v k = none := fun v ev => by
          cases z : tget v k with
          | none => rfl
          | some x => exact absurd (by rw [← ev, g]; exact List.mem_map.mpr ⟨_, tget_mem z, rfl⟩) nd.1
        rw [hn t rfl, hn u e2.symm]
      · have := h k
        rw [tget_cons, tget_cons, if_neg g, if_neg (by rw [← e1]; exact g)] at this
        exact this
theorem edit_fst : ∀ (es : List Edit) (acc : List Edit) (L : Tab (Option Int)), (es.foldl setEdit (acc, L)).1 = acc ++ (es.foldl setEdit ([], L)).1 ∧ (es.foldl setEdit (acc, L)).2 = (es.foldl setEdit ([], L)).2
  | [], acc, L => ⟨by simp, rfl⟩
  | e :: es, acc, L => by
    rw [List.foldl_cons, List.foldl_cons]
    have e1 := edit_fst es (acc ++ [(e.1, e.2.1, gp L e.1 e.2.1)]) (tput L (e.1, e.2.1) e.2.2)
    have e2 := edit_fst es ([] ++ [(e.1, e.2.1, gp L e.1 e.2.1)]) (tput L (e.1, e.2.1) e.2.2)
    have s1 : setEdit (acc, L) e = (acc ++ [(e.1, e.2.1, gp L e.1 e.2.1)], tput L (e.1, e.2.1) e.2.2) := rfl
    have s2 : setEdit ([], L) e = ([] ++ [(e.1, e.2.1, gp L e.1 e.2.1)], tput L (e.1, e.2.1) e.2.2) := rfl
    rw [s1, s2]
    exact ⟨by rw [e1.1, e2.1]; simp, by rw [e1.2, e2.2]⟩
/-- the old prices, set backwards, bring the table back -/
theorem undo_links : ∀ (es : List Edit) (L : Tab (Option Int)), (L.map (·.1)).Nodup → (∀ e ∈ es, Has L e.1 e.2.1) → (setEdits (setEdits L es).2 (setEdits L es).1.reverse).2 = L
  | [], L, _, _ => rfl
  | e :: es, L, nd, h => by
    have h1 := h e (by simp)
    have hk : (tput L (e.1, e.2.1) e.2.2).map (·.1) = L.map (·.1) := tput_keys _ h1
    have ih := undo_links es (tput L (e.1, e.2.1) e.2.2) (by rw [hk]; exact nd) fun d m => has_tput (.inl (h d (List.mem_cons_of_mem _ m)))
    have s2 : setEdits L (e :: es) = es.foldl setEdit ([(e.1, e.2.1, gp L e.1 e.2.1)], tput L (e.1, e.2.1) e.2.2) := rfl
    have e3 := edit_fst es [(e.1, e.2.1, gp L e.1 e.2.1)] (tput L (e.1, e.2.1) e.2.2)
    rw [s2, e3.2, e3.1, List.reverse_append]
    show ((((es.foldl setEdit ([], tput L (e.1, e.2.1) e.2.2)).1.reverse ++ [(e.1, e.2.1, gp L e.1 e.2.1)]).foldl setEdit ([], (es.foldl setEdit ([], tput L (e.1, e.2.1) e.2.2)).2))).2 = L
    rw [List.foldl_append]
    have ih : ((es.foldl setEdit ([], tput L (e.1, e.2.1) e.2.2)).1.reverse.foldl setEdit ([], (es.foldl setEdit ([], tput L (e.1, e.2.1) e.2.2)).2)).2 = tput L (e.1, e.2.1) e.2.2 := ih
    generalize (es.foldl setEdit ([], tput L (e.1, e.2.1) e.2.2)).1.reverse.foldl setEdit ([], (es.foldl setEdit ([], tput L (e.1, e.2.1) e.2.2)).2) = st at ih
    rw [List.foldl_cons, List.foldl_nil]
    show tput st.2 (e.1, e.2.1) (gp L e.1 e.2.1) = L
    rw [ih]
    have hk2 : (tput (tput L (e.1, e.2.1) e.2.2) (e.1, e.2.1) (gp L e.1 e.2.1)).map (·.1) = L.map (·.1) := by
      rw [tput_keys _ (by rw [tget_tput_same]; rfl), hk]
    refine tab_ext (by rw [hk2]; exact nd) hk2 fun k => ?_
    rw [tget_tput]
    split
    · rename_i z
      subst z
      obtain ⟨v, hv⟩ := Option.isSome_iff_exists.mp h1
      unfold gp
      rw [hv]; rfl
    · rename_i z
      rw [tget_tput_ne _ _ z]
/-- the edits of a history bring the past nets back -/
def HR : List (List Edit) → List Net → Net → Prop
  | [], [], _ => True
  | es :: hs, P :: ps, N => (setEdits (linkPrices N.2) es).2 = linkPrices P.2 ∧ (∀ e ∈ es, Has (linkPrices N.2) e.1 e.2.1) ∧ es.length ≤ 1000 ∧ LawNet P ∧ SameEnds N P ∧ HR hs ps P
  | _, _, _ => False
theorem HR.len : ∀ {hs : List (List Edit)} {ps : List Net} {N : Net}, HR hs ps N → hs.length = ps.length
  | [], [], _, _ => rfl
  | _ :: hs, _ :: ps, _, h => by rw [List.length_cons, List.length_cons, h.2.2.2.2.2.len]
  | [], _ :: _, _, h => h.elim
  | _ :: _, [], _, h => h.elim
/-- a session that keeps net N with its past -/
structure Keeps (N : Net) (past : List Net) (order : List Nat) (S : Ses) : Prop where
  inv : SInv N order S
  net : LawNet N
  ord : IsOrder N.1 order
  his : HR S.history.reverse past.reverse N
  lk : S.looked.length ≤ 1000
section
variable {N : Net} {past : List Net} {order : List Nat} {S : Ses}
theorem Keeps.edok (h : Keeps N past order S) {es : List Edit} (hp : past.length ≤ 1000) (hn : es.length ≤ 1000) (hk : ∀ e ∈ es, Has (linkPrices N.2) e.1 e.2.1) : EdOk S es where
  ses := h.inv.ok h.net h.ord
  n := hn
  ks := by rw [h.inv.links]; exact hk
  h := by have := h.his.len; rw [List.length_reverse, List.length_reverse] at this; omega
theorem Keeps.edit (h : Keeps N past order S) {es : List Edit} (hn : es.length ≤ 1000) (he : ∀ e ∈ es, PrOk e.2.2 ∧ Has (linkPrices N.2) e.1 e.2.1) : Keeps (lawEdits N es) (past ++ [N]) order (S.editAll es) ∧ S.editTold es = changesL (fillL N order) (fillL (lawEdits N es) order) := by
  obtain ⟨h1, h2, h3⟩ := edits_ok h.net he
  have h3 := h3 []
  have hL : (setEdits S.links es).2 = linkPrices (lawEdits N es).2 := by rw [h.inv.links, h3]; rfl
  have M := h.inv.mend h.net h1 h2 h.ord (L := (setEdits S.links es).2) (hi := S.history ++ [(setEdits S.links es).1.reverse]) (ed := editsAt es) hL fun w hw => by
    rw [h3]
    exact (set_gp es ([], linkPrices N.2) hw).symm
  refine ⟨⟨M.1, h1, by rw [← h2.1]; exact h.ord, ?_, M.2.2⟩, M.2.1⟩
  show HR (S.history ++ [(setEdits S.links es).1.reverse]).reverse (past ++ [N]).reverse (lawEdits N es)
  rw [List.reverse_append, List.reverse_append]
  have hu := undo_links es (linkPrices N.2) (by rw [h.net.links]; exact h.net.ways_nd) fun e m => (he e m).2
  have hk := setEdits_keys (L := linkPrices N.2) (es := es) fun e m => (he e m).2
  rw [h.inv.links] at hL ⊢
  refine ⟨by rw [← hL]; exact hu, fun e m => ?_, ?_, h.net, h2.symm, h.his⟩
  · rw [← hL]
    refine has_keys hk ?_
    have key : ∀ (es : List Edit) (s : List Edit × Tab (Option Int)), (∀ d ∈ s.1, Has (linkPrices N.2) d.1 d.2.1) → (∀ e ∈ es, Has (linkPrices N.2) e.1 e.2.1) → ∀ d ∈ (es.foldl setEdit s).1, Has (linkPrices N.2) d.1 d.2.1 := by
      intro es
      induction es with
      | nil => intro s hs _; exact hs
      | cons e es ih =>
        intro s hs he
        rw [List.foldl_cons]
        refine ih _ (fun d m => ?_) fun d m => he d (List.mem_cons_of_mem _ m)
        have m : d ∈ s.1 ++ [(e.1, e.2.1, gp s.2 e.1 e.2.1)] := m
        rcases List.mem_append.mp m with m | m
        · exact hs d m
        · have : d = (e.1, e.2.1, gp s.2 e.1 e.2.1) := by simpa using m
          rw [this]; exact he e (by simp)
    exact key es ([], linkPrices N.2) (by simp) (fun d m => (he d m).2) e (List.mem_reverse.mp m)
  · rw [List.length_reverse]
    have := (setEdits_len (es := es) (s := ([], linkPrices N.2))).1
    have e : (setEdits (linkPrices N.2) es).1 = (es.foldl setEdit ([], linkPrices N.2)).1 := rfl
    rw [e, this]
    simpa using hn
theorem Keeps.undo {P : Net} (h : Keeps N (past ++ [P]) order S) : Keeps P past order S.undone ∧ S.undoTold = changesL (fillL N order) (fillL P order) ∧ (∃ last, S.history.getLast? = some last) ∧ (∀ e ∈ S.lastEdits, Has (linkPrices N.2) e.1 e.2.1) ∧ S.lastEdits.length ≤ 1000 := by
  have hh := h.his
  rw [List.reverse_append] at hh
  have eh : ∃ es hs, S.history = hs ++ [es] := by
    rcases List.eq_nil_or_concat S.history with e | ⟨hs, es, e⟩
    · rw [e] at hh; exact hh.elim
    · exact ⟨es, hs, by rw [e, List.concat_eq_append]⟩
  obtain ⟨es, hs, e⟩ := eh
  rw [e, List.reverse_append] at hh
  obtain ⟨a1, a2, a3, a4, a5, a6⟩ := hh
  have el : S.lastEdits = es := by unfold Ses.lastEdits; rw [e]; simp
  have ed : S.history.dropLast = hs := by rw [e]; simp
  have hL : (setEdits S.links S.lastEdits).2 = linkPrices P.2 := by rw [h.inv.links, el]; exact a1
  have M := h.inv.mend h.net a4 a5 h.ord (L := (setEdits S.links S.lastEdits).2) (hi := S.history.dropLast) (ed := editsAt S.lastEdits) hL fun w hw => by
    rw [el] at hw
    rw [← a1]
    exact (set_gp es ([], linkPrices N.2) hw).symm
  refine ⟨⟨M.1, a4, by rw [← a5.1]; exact h.ord, ?_, M.2.2⟩, M.2.1, ⟨es, by rw [e]; simp⟩, by rw [el]; exact a2, by rw [el]; exact a3⟩
  show HR S.history.dropLast.reverse past.reverse P
  rw [ed]
  exact a6
end
/-! ### a new session, a copy -/
theorem rows_put {order : List Nat} {s1 : PM} {w : PP} : ∀ (ps : List PP) (s : PM), (gw s.1 w = gw s1.1 w ∧ hw s.2 w = hw s1.2 w ∨ w ∈ waysOf ps) → gw ((ps.map (rowOf s1.1 s1.2)).foldl putRow s).1 w = gw s1.1 w ∧ hw ((ps.map (rowOf s1.1 s1.2)).foldl putRow s).2 w = hw s1.2 w
  | [], s, h => by
    rcases h with h | h
    · exact h
    · simp [waysOf] at h
  | p :: ps, s, h => by
    rw [List.map_cons, List.foldl_cons]
    refine rows_put (order := order) ps _ ?_
    have e1 : gw (putRow s (rowOf s1.1 s1.2 p)).1 w = if w = (p.2, p.1) then gp s1.1 p.2 p.1 else if w = (p.1, p.2) then gp s1.1 p.1 p.2 else gw s.1 w := by
      unfold putRow rowOf; dsimp only; rw [gw_tput, gw_tput]
    have e2 : hw (putRow s (rowOf s1.1 s1.2 p)).2 w = if w = (p.2, p.1) then gm s1.2 p.2 p.1 else if w = (p.1, p.2) then gm s1.2 p.1 p.2 else hw s.2 w := by
      unfold putRow rowOf; dsimp only; rw [hw_tput, hw_tput]
    rw [e1, e2]
    by_cases g : w = (p.2, p.1)
    · left; rw [if_pos g, if_pos g, g]; exact ⟨rfl, rfl⟩
    · by_cases g2 : w = (p.1, p.2)
      · left; rw [if_neg g, if_neg g, if_pos g2, if_pos g2, g2]; exact ⟨rfl, rfl⟩
      · rw [if_neg g, if_neg g, if_neg g2, if_neg g2]
        rcases h with h | h
        · exact .inl h
        · right
          have e : waysOf (p :: ps) = p :: swp p :: waysOf ps := rfl
          rw [e] at h
          rcases List.mem_cons.mp h with z | h
          · exact absurd z g2
          · rcases List.mem_cons.mp h with z | h
            · exact absurd z g
            · exact h
theorem put_has {x y : Nat} : ∀ (rows : List Row) (s : PM), (Has s.1 x y ∧ Has s.2 x y ∨ ∃ r ∈ rows, (x, y) = (r.1, r.2.1) ∨ (x, y) = (r.2.1, r.1)) → Has (rows.foldl putRow s).1 x y ∧ Has (rows.foldl putRow s).2 x y
  | [], s, h => by
    rcases h with h | ⟨_, m, _⟩
    · exact h
    · cases m
  | r :: rows, s, h => by
    rw [List.foldl_cons]
    refine put_has rows _ ?_
    rcases h with h | ⟨q, m, e⟩
    · left
      unfold putRow
      exact ⟨has_tput (.inl (has_tput (.inl h.1))), has_tput (.inl (has_tput (.inl h.2)))⟩
    · rcases List.mem_cons.mp m with z | m
      · subst z
        left
        unfold putRow
        rcases e with e | e
        · exact ⟨has_tput (.inl (has_tput (.inr e))), has_tput (.inl (has_tput (.inr e)))⟩
        · exact ⟨has_tput (.inr e), has_tput (.inr e)⟩
      · exact .inr ⟨q, m, e⟩
theorem SInv.new {N : Net} {order : List Nat} (h : LawNet N) (ho : IsOrder N.1 order) : SInv N order (sesNew N order) := by
  have hp : (fillL N order).map (fun r => (r.1, r.2.1)) = pairsL N order := fill_pairs N order
  have hl := pairs_small h ho
  have hlen : (fillL N order).length = (pairsL N order).length := by unfold fillL; rw [List.length_map]
  have R := rowsPM_len (fillL N order) ([], [])
  have hh : ∀ p ∈ pairsL N order, (Has (rowsPM (fillL N order)).1 p.1 p.2 ∧ Has (rowsPM (fillL N order)).2 p.1 p.2) ∧ (Has (rowsPM (fillL N order)).1 p.2 p.1 ∧ Has (rowsPM (fillL N order)).2 p.2 p.1) := fun p m => by
    have m2 : (p.1, p.2) ∈ pairsL N order := m
    exact ⟨put_has _ _ (.inr ⟨_, fill_row h.ok ho h.small m2, .inl rfl⟩), put_has _ _ (.inr ⟨_, fill_row h.ok ho h.small m2, .inr rfl⟩)⟩
  refine ⟨rfl, rfl, rfl, hp, by show trianglesL ((fillL N order).map fun r => (r.1, r.2.1)) order = _; rw [hp], fun w m => ?_, fun p m => (hh p m).1.1, fun p m => (hh p m).2.1, fun p m => (hh p m).1.2, fun p m => (hh p m).2.2, ?_, ?_⟩
  · exact rows_put (order := order) (s1 := fillPM N order) (pairsL N order) ([], []) (.inr m)
  · show (rowsPM (fillL N order)).1.length ≤ 100000
    have := R.1
    unfold rowsPM
    simp at this
    omega
  · show (rowsPM (fillL N order)).2.length ≤ 100000
    have := R.2
    unfold rowsPM
    simp at this
    omega
theorem Keeps.new {N : Net} {order : List Nat} (h : LawNet N) (ho : IsOrder N.1 order) : Keeps N [] order (sesNew N order) := ⟨SInv.new h ho, h, ho, trivial, by show ([] : List PP).length ≤ 1000; simp⟩
theorem Keeps.copy {N : Net} {past : List Net} {order : List Nat} {S : Ses} (h : Keeps N past order S) : Keeps N past order S.copyL := by
  have I := SInv.new h.net h.ord
  have e : S.copyL = { sesNew N order with history := S.history, looked := S.looked } := by
    unfold Ses.copyL
    rw [h.inv.net h.net h.ord, h.inv.ord]
  rw [e]
  exact ⟨⟨I.count, I.ord, I.links, I.prs, I.low, I.val, I.p1, I.p2, I.m1, I.m2, I.lp, I.lm⟩, h.net, h.ord, h.his, h.lk⟩
end Ov

/-! ## M20 -/
/-! Roads: what the walks ask. No library. -/
namespace Ov
open T
theorem roadOf_mono {rows : List Row} : ∀ {k m x y : Nat} {l : List Nat}, roadOf rows k x y = some l → k ≤ m → roadOf rows m x y = some l
  | 0, _, _, _, _, h, _ => by cases h
  | k + 1, 0, _, _, _, _, h => absurd h (by omega)
  | k + 1, m + 1, x, y, l, h, hk => by
    unfold roadOf at h ⊢
    cases e : wayOf rows x y with
    | none => rw [e] at h; cases h
    | some s =>
      rw [e] at h
      obtain ⟨p, mi⟩ := s
      cases p with
      | none => cases h
      | some p =>
        cases mi with
        | none => exact h
        | some w =>
          dsimp only at h ⊢
          cases e1 : roadOf rows k x w with
          | none => rw [e1] at h; cases h
          | some a =>
            cases e2 : roadOf rows k w y with
            | none => rw [e1, e2] at h; cases h
            | some c =>
              rw [e1, e2] at h
              rw [roadOf_mono e1 (show k ≤ m by omega), roadOf_mono e2 (show k ≤ m by omega)]
              exact h
theorem roadOf_len {rows : List Row} : ∀ {k x y : Nat} {l : List Nat}, roadOf rows k x y = some l → l.length ≤ 2 ^ k + 1
  | 0, _, _, _, h => by cases h
  | k + 1, x, y, l, h => by
    unfold roadOf at h
    have hp : 0 < 2 ^ k := Nat.pow_pos (by decide)
    have hq : 2 ^ (k + 1) = 2 * 2 ^ k := by rw [Nat.pow_succ]; omega
    cases e : wayOf rows x y with
    | none => rw [e] at h; cases h
    | some s =>
      rw [e] at h
      obtain ⟨p, mi⟩ := s
      cases p with
      | none => cases h
      | some p =>
        cases mi with
        | none =>
          dsimp only at h
          cases h
          simp; omega
        | some w =>
          dsimp only at h
          cases e1 : roadOf rows k x w with
          | none => rw [e1] at h; cases h
          | some a =>
            cases e2 : roadOf rows k w y with
            | none => rw [e1, e2] at h; cases h
            | some c =>
              rw [e1, e2] at h
              cases h
              have h1 := roadOf_len e1
              have h2 := roadOf_len e2
              rw [List.length_append, List.length_drop]
              omega
/-- a chain of steps that ends at s -/
def StepL (sums : List Sum) (s : Nat) : List Nat → Prop
  | [] => False
  | [x] => x = s
  | x :: y :: r => x ≠ s ∧ sums[x]? = some ((sums.getD x (none, none)).1, some y) ∧ StepL sums s (y :: r)
theorem StepL.at_ {sums : List Sum} {s : Nat} : ∀ {l : List Nat} {i : Nat} {x : Nat}, StepL sums s l → l[i]? = some x → (i + 1 = l.length ∧ x = s) ∨ ∃ y, i + 1 < l.length ∧ x ≠ s ∧ l[i + 1]? = some y ∧ sums[x]? = some ((sums.getD x (none, none)).1, some y)
  | [], _, _, h, _ => h.elim
  | [z], i, x, h, e => by
    cases i with
    | zero => cases e; exact .inl ⟨rfl, h⟩
    | succ i => simp at e
  | z :: y :: r, i, x, h, e => by
    cases i with
    | zero =>
      cases e
      exact .inr ⟨y, by simp, h.1, rfl, h.2.1⟩
    | succ i =>
      have e : (y :: r)[i]? = some x := by simpa using e
      rcases StepL.at_ h.2.2 e with ⟨a, b⟩ | ⟨w, a, b, c, d⟩
      · exact .inl ⟨by simp at a ⊢; omega, b⟩
      · exact .inr ⟨w, by simp at a ⊢; omega, b, by simpa using c, d⟩
theorem stp_get {sums : List Sum} {x l : Nat} (h : stp sums x = some l) : sums[x]? = some ((sums.getD x (none, none)).1, some l) := by
  unfold stp at h
  rw [List.getD_eq_getElem?_getD] at h ⊢
  cases e : sums[x]? with
  | none => rw [e] at h; cases h
  | some s => rw [e] at h; rw [← h]; rfl
section
variable {up : Bool} {F : Wt} {r : Nat → Nat} {n p : Nat} {rows : List Row} (hR : RowsUp rows up F r n) (hp : p < n)
include hR hp
theorem steps_ok : ∀ (k x : Nat) (d : Int), r x < k → val (sumsOver n rows p up) x = some d → (∃ rest, stepsTo (sumsOver n rows p up) p k x = x :: rest) ∧ StepL (sumsOver n rows p up) p (stepsTo (sumsOver n rows p up) p k x) ∧ (stepsTo (sumsOver n rows p up) p k x).length ≤ k
  | 0, x, d, h, _ => absurd h (by omega)
  | k + 1, x, d, h, hv => by
    unfold stepsTo
    by_cases e : x = p
    · rw [if_pos e]
      exact ⟨⟨[], rfl⟩, e, by simp⟩
    · rw [if_neg e]
      rcases (stp_ok hR hp).at_ x d hv with z | ⟨l, c, d', a1, a2, a3, a4, a5, _⟩
      · exact absurd z e
      · rw [show ((sumsOver n rows p up).getD x (none, none)).2 = some l from a1]
        obtain ⟨⟨rest, e1⟩, e2, e3⟩ := steps_ok k l d' (by omega) a4
        refine ⟨⟨_, rfl⟩, ?_, by rw [List.length_cons]; exact Nat.succ_le_succ e3⟩
        show StepL _ p (x :: stepsTo (sumsOver n rows p up) p k l)
        rw [e1] at e2 ⊢
        exact ⟨e, stp_get a1, e2⟩
end
theorem chain_flat (rows : List Row) (n : Nat) : ∀ l : List Nat, chainRoad rows n l = (List.range (l.length - 1)).flatMap fun j => ((roadOf rows n (l.getD j 0) (l.getD (j + 1) 0)).getD []).drop 1
  | [] => rfl
  | [_] => rfl
  | x :: y :: r => by
    unfold chainRoad
    rw [chain_flat rows n (y :: r)]
    have e : (x :: y :: r).length - 1 = ((y :: r).length - 1) + 1 := by simp
    rw [e, List.range_succ_eq_map, List.flatMap_cons, List.flatMap_map]
    rfl
/-- what answer_road is asked with -/
structure RoadOk (order : List Nat) (rows : List Row) (s t : Nat) : Prop where
  n : order.length ≤ 16
  lt : ∀ p ∈ order, p < order.length
  rl : ∀ r ∈ rows, r.1 < order.length ∧ r.2.1 < order.length
  hs : s < order.length
  ht : t < order.length
  go : ∀ top, (answerL order rows s t).2 = some top → StepL (sumsOver order.length rows s true) s (stepsTo (sumsOver order.length rows s true) s order.length top) ∧ StepL (sumsOver order.length rows t false) t (stepsTo (sumsOver order.length rows t false) t order.length top) ∧
    (stepsTo (sumsOver order.length rows s true) s order.length top).head? = some top ∧ (stepsTo (sumsOver order.length rows t false) t order.length top).head? = some top ∧
    (stepsTo (sumsOver order.length rows s true) s order.length top).length ≤ 50 ∧ (stepsTo (sumsOver order.length rows t false) t order.length top).length ≤ 50 ∧
    ∀ i a b, (answerChain order rows s t top)[i]? = some a → (answerChain order rows s t top)[i + 1]? = some b → (roadOf rows order.length a b).isSome = true
theorem path_ways {w : Wt} : ∀ {l : List Nat} {x z : Nat} {c : Int} {i a b : Nat}, Path w x l z c → (x :: l)[i]? = some a → (x :: l)[i + 1]? = some b → ∃ p, w a b = some p
  | [], _, _, _, i, a, b, _, _, h => by simp at h
  | y :: l, x, z, c, i, a, b, ⟨p, d, e1, e2, _⟩, h1, h2 => by
    cases i with
    | zero => cases h1; cases h2; exact ⟨p, e1⟩
    | succ i => exact path_ways e2 (by simpa using h1) (by simpa using h2)
section
variable {N : Net} {order : List Nat} (hN : NetOk N) (ho : IsOrder N.1 order) (h2 : N.1 ≤ 200)
include hN ho h2
theorem road_ok (h16 : N.1 ≤ 16) {s t : Nat} (hs : s < N.1) (ht : t < N.1) : RoadOk order (fillL N order) s t := by
  have hl : order.length = N.1 := ho.len
  refine ⟨by omega, fun p m => by rw [hl]; exact ho.lt p m, fun r m => by rw [hl]; exact pairs_lt hN ho (fill_mem hN ho h2 m).1, by omega, by omega, fun top htop => ?_⟩
  have hm := meet_top (ups := sumsOver order.length (fillL N order) s true) (downs := sumsOver order.length (fillL N order) t false) order (none, none) (.inl rfl)
  rcases hm with e | ⟨d, top', e, h⟩
  · have e' : answerL order (fillL N order) s t = (none, none) := e
    rw [e'] at htop; cases htop
  · have e' : answerL order (fillL N order) s t = (some d, some top') := e
    rw [e'] at htop
    cases htop
    obtain ⟨a, b, e1, e2, e3⟩ := osum_some h
    rw [hl] at e1 e2
    have hlt : rk order top < N.1 := rk_lt ho (val_lt hN ho h2 hs e1)
    obtain ⟨l1, r1, q1⟩ := steps_up (fill_up hN ho h2) hs N.1 top a hlt e1
    obtain ⟨l2, r2, q2⟩ := steps_down (fill_down hN ho h2) ht N.1 top b hlt e2
    have q2 : Path (fN N order) top l2 t b := q2
    obtain ⟨⟨z1, x1⟩, x2, x3⟩ := steps_ok (fill_up hN ho h2) hs N.1 top a hlt e1
    obtain ⟨⟨z2, y1⟩, y2, y3⟩ := steps_ok (fill_down hN ho h2) ht N.1 top b hlt e2
    have hc : answerChain order (fillL N order) s t top = s :: (l1 ++ l2) := by
      unfold answerChain
      rw [hl, r1, r2]
      rfl
    rw [hc, hl]
    refine ⟨x2, y2, by rw [x1]; rfl, by rw [y1]; rfl, by omega, by omega, fun i u v hu hv => ?_⟩
    obtain ⟨p, hp⟩ := path_ways (q1.append q2) hu hv
    have hx : rk order u < N.1 := by
      rcases fN_pair hN ho h2 hp with m | m
      · exact rk_lt ho (pairs_lt hN ho m).1
      · exact rk_lt ho (pairs_lt hN ho m).2
    obtain ⟨l, hr, _⟩ := road_path hN ho h2 N.1 u v p (by omega) hp
    rw [hr]; rfl
end
end Ov

/-! ## M21 -/
/-! True prices: what the walks ask. No library. -/
namespace Ov
open T
def trueAt (rows : List Row) (i : Nat) : Tab (Option Int) := (rows.reverse.take i).foldl (trueStep (filledP rows) (upperOf rows)) []
structure TpOk (rows : List Row) : Prop where
  n : rows.length ≤ 40000
  um : ∀ r ∈ rows, (tget (upperOf rows) r.1).isSome = true
  ul : ∀ r ∈ rows, ((tget (upperOf rows) r.1).getD []).length ≤ 40000
  f1 : ∀ r ∈ rows, Has (filledP rows) r.1 r.2.1
  f2 : ∀ r ∈ rows, Has (filledP rows) r.2.1 r.1
  ot : ∀ i r, rows.reverse[i]? = some r → ∀ u ∈ (tget (upperOf rows) r.1).getD [], u ≠ r.2.1 → Has (filledP rows) r.1 u ∧ Has (filledP rows) u r.1 ∧ Has (trueAt rows i) u r.2.1 ∧ Has (trueAt rows i) r.2.1 u
  tl : ∀ i, (trueAt rows i).length ≤ 2 * i
  t1 : ∀ r ∈ rows, Has (truePrices rows) r.1 r.2.1 ∧ Has (truePrices rows) r.2.1 r.1
  ts : ∀ r ∈ rows, (∀ f, gp (filledP rows) r.1 r.2.1 = some f → ∃ t, gp (truePrices rows) r.1 r.2.1 = some t) ∧ (∀ f, gp (filledP rows) r.2.1 r.1 = some f → ∃ t, gp (truePrices rows) r.2.1 r.1 = some t)
theorem filled_has {x y : Nat} : ∀ (rows : List Row) (t : Tab (Option Int)), (Has t x y ∨ ∃ r ∈ rows, (x, y) = (r.1, r.2.1) ∨ (x, y) = (r.2.1, r.1)) → Has (rows.foldl (fun t r => tput (tput t (r.1, r.2.1) r.2.2.1) (r.2.1, r.1) r.2.2.2.1) t) x y
  | [], t, h => by
    rcases h with h | ⟨_, m, _⟩
    · exact h
    · cases m
  | r :: rows, t, h => by
    rw [List.foldl_cons]
    refine filled_has rows _ ?_
    rcases h with h | ⟨q, m, e⟩
    · exact .inl (has_tput (.inl (has_tput (.inl h))))
    · rcases List.mem_cons.mp m with z | m
      · subst z
        rcases e with e | e
        · exact .inl (has_tput (.inl (has_tput (.inr e))))
        · exact .inl (has_tput (.inr e))
      · exact .inr ⟨q, m, e⟩
theorem true_has {F : Tab (Option Int)} {U : List (Nat × List Nat)} {x y : Nat} : ∀ (rows : List Row) (t : Tab (Option Int)), (Has t x y ∨ ∃ r ∈ rows, (x, y) = (r.1, r.2.1) ∨ (x, y) = (r.2.1, r.1)) → Has (rows.foldl (trueStep F U) t) x y
  | [], t, h => by
    rcases h with h | ⟨_, m, _⟩
    · exact h
    · cases m
  | r :: rows, t, h => by
    rw [List.foldl_cons]
    refine true_has rows _ ?_
    rcases h with h | ⟨q, m, e⟩
    · exact .inl (has_tput (.inl (has_tput (.inl h))))
    · rcases List.mem_cons.mp m with z | m
      · subst z
        rcases e with e | e
        · exact .inl (has_tput (.inl (has_tput (.inr e))))
        · exact .inl (has_tput (.inr e))
      · exact .inr ⟨q, m, e⟩
theorem true_len {F : Tab (Option Int)} {U : List (Nat × List Nat)} : ∀ (rows : List Row) (t : Tab (Option Int)), (rows.foldl (trueStep F U) t).length ≤ t.length + 2 * rows.length
  | [], t => by simp
  | r :: rows, t => by
    rw [List.foldl_cons, List.length_cons]
    have h1 := true_len (F := F) (U := U) rows (trueStep F U t r)
    have h2 : (trueStep F U t r).length ≤ t.length + 2 := by
      unfold trueStep
      exact Nat.le_trans (tput_length _ _ _) (Nat.succ_le_succ (tput_length _ _ _))
    omega
section
variable {N : Net} {order : List Nat} (hN : NetOk N) (ho : IsOrder N.1 order) (h2 : N.1 ≤ 200)
include hN ho h2
theorem tp_ok (hpos : ∀ x y p, wN N x y = some p → 0 < p) : TpOk (fillL N order) := by
  have hl := pairs_len hN ho
  have hlen : (fillL N order).length = (pairsL N order).length := by unfold fillL; rw [List.length_map]
  have hn : N.1 * N.1 ≤ 200 * 200 := Nat.mul_le_mul h2 h2
  have um : ∀ r ∈ fillL N order, (tget (upperOf (fillL N order)) r.1).isSome = true := fun r m => by
    have := (upper_mem hN ho h2 (l := r.1) (f := r.2.1)).mpr (fill_mem hN ho h2 m).1
    cases e : tget (upperOf (fillL N order)) r.1 with
    | none => rw [e] at this; simp at this
    | some l => rfl
  have all : ∀ i, trueAt (fillL N order) i = (((fillL N order).reverse.take i).foldl (trueStep (filledP (fillL N order)) (upperOf (fillL N order))) []) := fun _ => rfl
  have tps : truePrices (fillL N order) = (fillL N order).reverse.foldl (trueStep (filledP (fillL N order)) (upperOf (fillL N order))) [] := rfl
  have has : ∀ r ∈ fillL N order, Has (truePrices (fillL N order)) r.1 r.2.1 ∧ Has (truePrices (fillL N order)) r.2.1 r.1 := fun r m => by
    rw [tps]
    exact ⟨true_has _ _ (.inr ⟨r, by simpa using m, .inl rfl⟩), true_has _ _ (.inr ⟨r, by simpa using m, .inr rfl⟩)⟩
  refine ⟨by omega, um, fun r m => ?_, fun r m => filled_has _ _ (.inr ⟨r, m, .inl rfl⟩), fun r m => filled_has _ _ (.inr ⟨r, m, .inr rfl⟩), fun i r hi u mu ne => ?_, fun i => ?_, has, fun r m => ?_⟩
  · have e : upperOf (fillL N order) = upDict (pairsL N order) := by
      rw [← fill_keysL hN ho h2]
      unfold upDict upperOf
      rw [List.foldl_map]
    rw [e, upDict_get]
    have := ups_len (pairs_nd hN ho) (fun p m => (pairs_lt hN ho m).2) r.1
    omega
  · have mr : r ∈ fillL N order := by have := List.mem_of_getElem? hi; simpa using this
    have hrp := (fill_mem hN ho h2 mr).1
    have m := (upper_mem hN ho h2).mp mu
    have g := pairs_up hN ho m
    have hup := pairs_up hN ho hrp
    have one : ∀ a b, (a, b) ∈ pairsL N order → rk order r.1 < rk order a → ∃ q ∈ (fillL N order).reverse.take i, q.1 = a ∧ q.2.1 = b := fun a b mab gab => by
      have hq := fill_row hN ho h2 mab
      have hq2 : (a, b, fN N order a b, fN N order b a, gm (fillPM N order).2 a b, gm (fillPM N order).2 b a) ∈ (fillL N order).reverse := by simpa using hq
      obtain ⟨j, hj⟩ := List.getElem?_of_mem hq2
      have srt : (fillL N order).reverse.Pairwise fun a b => rk order b.1 ≤ rk order a.1 := List.pairwise_reverse.mpr (fill_srt hN ho h2)
      have hji : j < i := by
        rcases Nat.lt_or_ge j i with z | z
        · exact z
        · exfalso
          rcases Nat.lt_or_eq_of_le z with z | z
          · have lj := (List.getElem?_eq_some_iff.mp hj).1
            have li := (List.getElem?_eq_some_iff.mp hi).1
            have := List.pairwise_iff_getElem.mp srt i j li lj z
            rw [(List.getElem?_eq_some_iff.mp hj).2, (List.getElem?_eq_some_iff.mp hi).2] at this
            dsimp only at this
            omega
          · subst z
            rw [hi] at hj
            cases hj
            dsimp only at gab
            omega
      have hm2 : (a, b, fN N order a b, fN N order b a, gm (fillPM N order).2 a b, gm (fillPM N order).2 b a) ∈ (fillL N order).reverse.take i := by
        rw [List.mem_take_iff_getElem]
        refine ⟨j, ?_, (List.getElem?_eq_some_iff.mp hj).2⟩
        have := (List.getElem?_eq_some_iff.mp hj).1
        omega
      exact ⟨_, hm2, rfl, rfl⟩
    have hb : (u, r.2.1) ∈ pairsL N order ∨ (r.2.1, u) ∈ pairsL N order := by
      rcases Nat.lt_trichotomy (rk order u) (rk order r.2.1) with z | z | z
      · exact .inl (pairs_cl hN ho m hrp z)
      · exact absurd (rk_inj ho (pairs_lt hN ho m).2 (pairs_lt hN ho hrp).2 z) ne
      · exact .inr (pairs_cl hN ho hrp m z)
    refine ⟨filled_has _ _ (.inr ⟨_, fill_row hN ho h2 m, .inl rfl⟩), filled_has _ _ (.inr ⟨_, fill_row hN ho h2 m, .inr rfl⟩), ?_, ?_⟩
    · rcases hb with hb | hb
      · obtain ⟨q, mq, e1, e2⟩ := one _ _ hb g
        exact true_has _ _ (.inr ⟨q, mq, .inl (by rw [e1, e2])⟩)
      · obtain ⟨q, mq, e1, e2⟩ := one _ _ hb hup
        exact true_has _ _ (.inr ⟨q, mq, .inr (by rw [e1, e2])⟩)
    · rcases hb with hb | hb
      · obtain ⟨q, mq, e1, e2⟩ := one _ _ hb g
        exact true_has _ _ (.inr ⟨q, mq, .inr (by rw [e1, e2])⟩)
      · obtain ⟨q, mq, e1, e2⟩ := one _ _ hb hup
        exact true_has _ _ (.inr ⟨q, mq, .inl (by rw [e1, e2])⟩)
  · have := true_len (F := filledP (fillL N order)) (U := upperOf (fillL N order)) ((fillL N order).reverse.take i) []
    unfold trueAt
    rw [List.length_take] at this
    simp only [List.length_nil] at this
    omega
  · have hp := (fill_mem hN ho h2 m).1
    have hF := filled hN ho h2 hpos
    constructor
    · intro f hf
      rw [filledP_get hN ho h2 (.inl hp)] at hf
      obtain ⟨t, ht, _⟩ := (true_least hN ho h2 hpos (.inl hp)).cmp f (hF.walk _ _ _ hf)
      exact ⟨t, ht⟩
    · intro f hf
      rw [filledP_get hN ho h2 (.inr hp)] at hf
      obtain ⟨t, ht, _⟩ := (true_least hN ho h2 hpos (.inr hp)).cmp f (hF.walk _ _ _ hf)
      exact ⟨t, ht⟩
end
end Ov

/-! ## M22 -/
/-! Labels: what the walks ask. No library. -/
namespace Ov
open T
structure GrownOk (order : List Nat) (sums : List Sum) (others : List (Nat × Lab)) (place : Nat) : Prop where
  n : order.length ≤ 60
  lt : ∀ o ∈ order, o < sums.length
  oth : ∀ o ∈ order, o ≠ place → (∃ p, val sums o = some p) → (tget others o).isSome = true
theorem grown_len {sums : List Sum} {others : List (Nat × Lab)} {place : Nat} : ∀ (xs : List Nat) (lab : Lab), (lab.map (·.1)).Nodup → ((xs.foldl (grownStep sums others place) lab).map (·.1)).Nodup ∧ (xs.foldl (grownStep sums others place) lab).length ≤ lab.length + xs.length
  | [], lab, h => ⟨h, by simp⟩
  | x :: xs, lab, h => by
    rw [List.foldl_cons, List.length_cons]
    have key : ((grownStep sums others place lab x).map (·.1)).Nodup ∧ (grownStep sums others place lab x).length ≤ lab.length + 1 := by
      unfold grownStep
      cases (sums.getD x (none, none)).1 with
      | none => exact ⟨h, by dsimp only; omega⟩
      | some p =>
        dsimp only
        cases bestSum lab ((tget others x).getD []) with
        | none =>
          dsimp only
          split
          · exact ⟨h, by omega⟩
          · exact ⟨tput_nd _ _ h, tput_length _ _ _⟩
        | some b =>
          dsimp only
          split
          · exact ⟨h, by omega⟩
          · exact ⟨tput_nd _ _ h, tput_length _ _ _⟩
    have ih := grown_len (sums := sums) (others := others) (place := place) xs _ key.1
    exact ⟨ih.1, by have := ih.2; have := key.2; omega⟩
def labAt (order : List Nat) (rows : List Row) (i : Nat) : List (Nat × Lab) × List (Nat × Lab) := (order.reverse.take i).foldl (labStep order rows) ([], [])
structure LbOk (order : List Nat) (rows : List Row) : Prop where
  n : order.length ≤ 60
  rl : ∀ r ∈ rows, r.1 < order.length ∧ r.2.1 < order.length
  go : ∀ i p, order.reverse[i]? = some p → p < order.length ∧ GrownOk order (sumsOver order.length rows p true) (labAt order rows i).2 p ∧ GrownOk order (sumsOver order.length rows p false) (labAt order rows i).1 p
  sz : ∀ i, (labAt order rows i).1.length ≤ i ∧ (labAt order rows i).2.length ≤ i
  ks : ∀ p, p < order.length → (tget (labDicts order rows).1 p).isSome = true ∧ (tget (labDicts order rows).2 p).isSome = true
  ls : ∀ p l, (tget (labDicts order rows).1 p = some l ∨ tget (labDicts order rows).2 p = some l) → l.length < 64
theorem lab_keys {order : List Nat} {rows : List Row} {p : Nat} : ∀ (xs : List Nat) (D : List (Nat × Lab) × List (Nat × Lab)), ((tget (xs.foldl (labStep order rows) D).1 p).isSome = true ↔ (tget D.1 p).isSome = true ∨ p ∈ xs) ∧ ((tget (xs.foldl (labStep order rows) D).2 p).isSome = true ↔ (tget D.2 p).isSome = true ∨ p ∈ xs)
  | [], D => by simp
  | x :: xs, D => by
    rw [List.foldl_cons]
    obtain ⟨h1, h2⟩ := lab_keys (order := order) (rows := rows) (p := p) xs (labStep order rows D x)
    rw [h1, h2]
    unfold labStep
    dsimp only
    rw [tget_tput, tget_tput]
    by_cases e : p = x
    · simp [e]
    · simp [e]
theorem lab_sizes {order : List Nat} {rows : List Row} (hn : order.length ≤ 60) : ∀ (xs : List Nat) (D : List (Nat × Lab) × List (Nat × Lab)), (∀ p l, (tget D.1 p = some l ∨ tget D.2 p = some l) → l.length < 64) → (∀ p l, (tget (xs.foldl (labStep order rows) D).1 p = some l ∨ tget (xs.foldl (labStep order rows) D).2 p = some l) → l.length < 64) ∧ (xs.foldl (labStep order rows) D).1.length ≤ D.1.length + xs.length ∧ (xs.foldl (labStep order rows) D).2.length ≤ D.2.length + xs.length
  | [], D, h => ⟨h, by simp, by simp⟩
  | x :: xs, D, h => by
    rw [List.foldl_cons, List.length_cons]
    have gl : ∀ (s : List Sum) (o : List (Nat × Lab)), (grownL order s o x).length < 64 := fun s o => by
      have := (grown_len (sums := s) (others := o) (place := x) order.reverse [] (by simp)).2
      unfold grownL
      simp only [List.length_nil, List.length_reverse] at this
      omega
    have key : ∀ p l, (tget (labStep order rows D x).1 p = some l ∨ tget (labStep order rows D x).2 p = some l) → l.length < 64 := fun p l e => by
      unfold labStep at e
      dsimp only at e
      rw [tget_tput, tget_tput] at e
      by_cases q : p = x
      · rw [if_pos q, if_pos q] at e
        rcases e with e | e <;> (cases e; exact gl _ _)
      · rw [if_neg q, if_neg q] at e
        exact h p l e
    have ih := lab_sizes (rows := rows) hn xs (labStep order rows D x) key
    have l1 : (labStep order rows D x).1.length ≤ D.1.length + 1 := tput_length _ _ _
    have l2 : (labStep order rows D x).2.length ≤ D.2.length + 1 := tput_length _ _ _
    exact ⟨ih.1, by have := ih.2.1; omega, by have := ih.2.2; omega⟩
section
variable {N : Net} {order : List Nat} (hN : NetOk N) (ho : IsOrder N.1 order) (h2 : N.1 ≤ 200)
include hN ho h2
theorem lb_ok (h60 : N.1 ≤ 60) : LbOk order (fillL N order) := by
  have hl : order.length = N.1 := ho.len
  have srt : order.reverse.Pairwise fun a b => rk order b < rk order a := List.pairwise_reverse.mpr (order_srt hN ho h2)
  have hs := lab_sizes (rows := fillL N order) (order := order) (by omega)
  refine ⟨by omega, fun r m => by rw [hl]; exact pairs_lt hN ho (fill_mem hN ho h2 m).1, fun i p hi => ?_, fun i => ?_, fun p hp => ?_, fun p l e => ?_⟩
  · have hp : p ∈ order := by have := List.mem_of_getElem? hi; simpa using this
    have hpl : p < N.1 := ho.lt p hp
    have done : ∀ o, o ∈ order → rk order p < rk order o → o ∈ order.reverse.take i := fun o mo g => by
      obtain ⟨j, hj⟩ := List.getElem?_of_mem (show o ∈ order.reverse by simpa using mo)
      have lj := (List.getElem?_eq_some_iff.mp hj).1
      have li := (List.getElem?_eq_some_iff.mp hi).1
      rw [List.mem_take_iff_getElem]
      refine ⟨j, ?_, (List.getElem?_eq_some_iff.mp hj).2⟩
      rcases Nat.lt_trichotomy j i with z | z | z
      · omega
      · subst z; rw [hi] at hj; cases hj; omega
      · have := List.pairwise_iff_getElem.mp srt i j li lj z
        rw [(List.getElem?_eq_some_iff.mp hi).2, (List.getElem?_eq_some_iff.mp hj).2] at this
        omega
    have up : ∀ (up : Bool) (F : Wt), RowsUp (fillL N order) up F (rk order) N.1 → ∀ o, o ≠ p → (∃ d, val (sumsOver order.length (fillL N order) p up) o = some d) → rk order p < rk order o := fun up F hR o ne ⟨d, hd⟩ => by
      rw [hl] at hd
      have u := (sums_least hR hpl o).snd d hd
      cases u with
      | nil => exact absurd rfl ne
      | cons g1 _ g3 => have := g3.le; omega
    have sl : ∀ up, (sumsOver order.length (fillL N order) p up).length = order.length := fun up => by unfold sumsOver; rw [sums_len']; simp
    refine ⟨by omega, ⟨by omega, fun o mo => by rw [sl, hl]; exact ho.lt o mo, fun o mo ne hv => ?_⟩, ⟨by omega, fun o mo => by rw [sl, hl]; exact ho.lt o mo, fun o mo ne hv => ?_⟩⟩
    · exact (lab_keys _ _).2.mpr (.inr (done o mo (up true _ (fill_up hN ho h2) o ne hv)))
    · exact (lab_keys _ _).1.mpr (.inr (done o mo (up false _ (fill_down hN ho h2) o ne hv)))
  · have := (hs (order.reverse.take i) ([], []) (fun p l e => by rcases e with e | e <;> cases e)).2
    rw [List.length_take] at this
    simp only [List.length_nil] at this
    unfold labAt
    exact ⟨by omega, by omega⟩
  · have mp : p ∈ order.reverse := by simpa using ho.all p (by omega)
    exact ⟨(lab_keys _ _).1.mpr (.inr mp), (lab_keys _ _).2.mpr (.inr mp)⟩
  · exact (hs order.reverse ([], []) (fun p l e => by rcases e with e | e <;> cases e)).1 p l e
end
theorem toDict_len : ∀ (l d : Lab), (l.foldl (fun d p => tput d p.1 p.2) d).length ≤ d.length + l.length
  | [], d => by simp
  | p :: l, d => by
    rw [List.foldl_cons, List.length_cons]
    have := toDict_len l (tput d p.1 p.2)
    have := tput_length d p.1 p.2
    omega
end Ov

/-! ## M23 -/
/-! What the law draws. No library. -/
namespace Ov
open T
/-! ### numbers -/
def absI (i : Int) : Int := if i < 0 then -i else i
def restL (s : List Int) : List Int := if 0 < s.length then (s.take 63).map absI else [0]
def mixI (c : Int) : Int := (c * 48271 + 11) % 2147483647
structure NumS where
  rest : List Int
  mixed : List Int
  out : List Nat
def numStep (S : NumS) (k : Nat) : NumS :=
  if (10 : Int) ^ 18 ≤ S.rest.getD (k % S.rest.length) 0 then ⟨S.rest.set (k % S.rest.length) (S.rest.getD (k % S.rest.length) 0 / 65536), S.mixed, S.out ++ [(S.rest.getD (k % S.rest.length) 0 % 65536).toNat]⟩
  else ⟨S.rest, S.mixed.set (k % S.rest.length) ((S.mixed.getD (k % S.rest.length) 0 * 16807 + 12345 + 7919 * (k : Int)) % 2147483647), S.out ++ [((S.rest.getD (k % S.rest.length) 0 + (S.mixed.getD (k % S.rest.length) 0 * 16807 + 12345 + 7919 * (k : Int)) % 2147483647 / 5) % 65536).toNat]⟩
def numsAt (s : List Int) (i : Nat) : NumS := (List.range i).foldl numStep ⟨restL s, (restL s).map mixI, []⟩
def numbersL (s : List Int) (n : Nat) : List Nat := (numsAt s n).out
structure NumOk (S : NumS) (m i : Nat) : Prop where
  r : S.rest.length = m
  x : S.mixed.length = m
  o : S.out.length = i
theorem num_step {S : NumS} {m i k : Nat} (h : NumOk S m i) : NumOk (numStep S k) m (i + 1) := by
  unfold numStep
  split
  · exact ⟨by rw [List.length_set]; exact h.r, h.x, by show (S.out ++ [_]).length = _; simp [h.o]⟩
  · exact ⟨h.r, by show (S.mixed.set _ _).length = _; rw [List.length_set]; exact h.x, by show (S.out ++ [_]).length = _; simp [h.o]⟩
theorem rest_pos (s : List Int) : 0 < (restL s).length ∧ (restL s).length ≤ 63 := by
  unfold restL
  split
  · rw [List.length_map, List.length_take]; omega
  · simp
theorem nums_ok (s : List Int) (i : Nat) : NumOk (numsAt s i) (restL s).length i := by
  unfold numsAt
  induction i with
  | zero => exact ⟨rfl, by simp, rfl⟩
  | succ i ih => rw [List.range_succ, List.foldl_append]; exact num_step ih
theorem numbers_len (s : List Int) (n : Nat) : (numbersL s n).length = n := (nums_ok s n).o
/-! ### prices, nets, orders -/
def priceL (d : Nat) : Option Int :=
  if (d : Int) % 6 = 0 then none else if (d : Int) % 36 = 7 then some (1000000 - (d : Int) / 36 % 3) else if (d : Int) % 6 = 1 then some (1 + (d : Int) / 6 * 9973 % 1000000) else some (1 + (d : Int) / 6 % 9)
theorem price_ok (d : Nat) : PrOk (priceL d) := by
  unfold priceL
  intro q h
  split at h
  · cases h
  · split at h
    · injection h with h; omega
    · split at h
      · injection h with h; omega
      · injection h with h; omega
def lnStep (ns : List Nat) (at_ a : Nat) (ls : List Link) (b : Nat) : List Link :=
  if (((ns.getD (at_ + 8 * a + b) 0 : Nat) : Int) % 5 < 2) ∨ (b = a + 1 ∧ (0 : Int) < ((ns.getD (at_ + 8 * a + b) 0 : Nat) : Int) % 7) then ls ++ [(a, b, priceL (ns.getD (at_ + 8 * a + b) 0 / 3), priceL (ns.getD (at_ + 8 * a + b) 0 / 2))] else ls
def lnIn (ns : List Nat) (at_ n : Nat) (ls : List Link) (a i : Nat) : List Link := (List.range i).foldl (fun ls j => lnStep ns at_ a ls (a + 1 + j)) ls
def lnRow (ns : List Nat) (at_ n : Nat) (ls : List Link) (a : Nat) : List Link := lnIn ns at_ n ls a (n - (a + 1))
def lawNetL (ns : List Nat) (at_ n : Nat) : Net := (n, (List.range n).foldl (lnRow ns at_ n) [])
/-- the links of the places below a, and of a up to b -/
structure LnOk (n a b : Nat) (ls : List Link) : Prop where
  lt : ∀ l ∈ ls, l.1 < l.2.1 ∧ l.2.1 < n ∧ (l.1 < a ∨ (l.1 = a ∧ l.2.1 < b))
  srt : ls.Pairwise fun l m => ltP (lkey l) (lkey m)
  pr : ∀ l ∈ ls, PrOk l.2.2.1 ∧ PrOk l.2.2.2
theorem ln_step {ns : List Nat} {at_ n a b : Nat} {ls : List Link} (h : LnOk n a b ls) (hab : a < b) (hb : b < n) : LnOk n a (b + 1) (lnStep ns at_ a ls b) := by
  unfold lnStep
  split
  · refine ⟨fun l m => ?_, ?_, fun l m => ?_⟩
    · rcases List.mem_append.mp m with m | m
      · have := h.lt l m; omega
      · have : l = (a, b, priceL (ns.getD (at_ + 8 * a + b) 0 / 3), priceL (ns.getD (at_ + 8 * a + b) 0 / 2)) := by simpa using m
        rw [this]; dsimp only; omega
    · refine List.pairwise_append.mpr ⟨h.srt, by simp, fun l m q mq => ?_⟩
      have hq : q = (a, b, priceL (ns.getD (at_ + 8 * a + b) 0 / 3), priceL (ns.getD (at_ + 8 * a + b) 0 / 2)) := by simpa using mq
      have := h.lt l m
      rw [hq]
      unfold ltP lkey
      dsimp only
      omega
    · rcases List.mem_append.mp m with m | m
      · exact h.pr l m
      · have : l = (a, b, priceL (ns.getD (at_ + 8 * a + b) 0 / 3), priceL (ns.getD (at_ + 8 * a + b) 0 / 2)) := by simpa using m
        rw [this]; exact ⟨price_ok _, price_ok _⟩
  · exact ⟨fun l m => by have := h.lt l m; omega, h.srt, h.pr⟩
theorem ln_in {ns : List Nat} {at_ n a : Nat} {ls : List Link} (h : LnOk n a (a + 1) ls) : ∀ i, a + 1 + i ≤ n → LnOk n a (a + 1 + i) (lnIn ns at_ n ls a i)
  | 0, _ => h
  | i + 1, hi => by
    unfold lnIn
    rw [List.range_succ, List.foldl_append]
    have := ln_step (ns := ns) (at_ := at_) (ln_in (ns := ns) (at_ := at_) h i (by omega)) (by omega) (show a + 1 + i < n by omega)
    exact this
theorem ln_row {ns : List Nat} {at_ n a : Nat} {ls : List Link} (h : LnOk n a 0 ls) (ha : a < n) : LnOk n (a + 1) 0 (lnRow ns at_ n ls a) := by
  have h1 : LnOk n a (a + 1) ls := ⟨fun l m => by have := h.lt l m; omega, h.srt, h.pr⟩
  have h2 := ln_in (ns := ns) (at_ := at_) h1 (n - (a + 1)) (by omega)
  exact ⟨fun l m => by have := h2.lt l m; omega, h2.srt, h2.pr⟩
theorem ln_all (ns : List Nat) (at_ n : Nat) : ∀ a, a ≤ n → LnOk n a 0 ((List.range a).foldl (lnRow ns at_ n) [])
  | 0, _ => ⟨by simp, by simp, by simp⟩
  | a + 1, ha => by
    rw [List.range_succ, List.foldl_append]
    exact ln_row (ln_all ns at_ n a (by omega)) (by omega)
theorem law_net (ns : List Nat) (at_ n : Nat) (hn : n ≤ 14) : LawNet (lawNetL ns at_ n) := by
  have := ln_all ns at_ n n (Nat.le_refl _)
  exact ⟨hn, fun l m => by have := this.lt l m; exact ⟨this.1, this.2.1⟩, this.srt, this.pr⟩
def ordStep (ns : List Nat) (at_ : Nat) (s : List Nat × List Nat) (k : Nat) : List Nat × List Nat :=
  (s.1.take (ns.getD (at_ + k) 0 % s.1.length) ++ s.1.drop (ns.getD (at_ + k) 0 % s.1.length + 1), s.2 ++ [s.1.getD (ns.getD (at_ + k) 0 % s.1.length) 0])
def ordAt (ns : List Nat) (at_ n i : Nat) : List Nat × List Nat := (List.range i).foldl (ordStep ns at_) (List.range n, [])
def orderL (ns : List Nat) (at_ n : Nat) : List Nat := (ordAt ns at_ n n).2
theorem ord_ok (ns : List Nat) (at_ n : Nat) : ∀ i, i ≤ n → (ordAt ns at_ n i).1.length = n - i ∧ (ordAt ns at_ n i).2.length = i ∧ ((ordAt ns at_ n i).2 ++ (ordAt ns at_ n i).1).Perm (List.range n)
  | 0, _ => by unfold ordAt; simp
  | i + 1, hi => by
    obtain ⟨h1, h2, h3⟩ := ord_ok ns at_ n i (by omega)
    have e : ordAt ns at_ n (i + 1) = ordStep ns at_ (ordAt ns at_ n i) i := by unfold ordAt; rw [List.range_succ, List.foldl_append]; rfl
    rw [e]
    generalize ordAt ns at_ n i = s at h1 h2 h3
    obtain ⟨left, ord⟩ := s
    dsimp only at h1 h2 h3
    unfold ordStep
    dsimp only
    have hp : ns.getD (at_ + i) 0 % left.length < left.length := Nat.mod_lt _ (by omega)
    generalize ns.getD (at_ + i) 0 % left.length = p at hp
    have hl : left = left.take p ++ left.getD p 0 :: left.drop (p + 1) := by
      have := List.take_append_drop p left
      rw [List.drop_eq_getElem_cons hp] at this
      rw [show left.getD p 0 = left[p] by rw [List.getD_eq_getElem?_getD, List.getElem?_eq_getElem hp]; rfl]
      exact this.symm
    refine ⟨by rw [List.length_append, List.length_take, List.length_drop]; omega, by simp [h2], ?_⟩
    refine List.Perm.trans ?_ h3
    rw [List.append_assoc]
    refine List.Perm.append_left ord ?_
    conv => rhs; rw [hl]
    rw [List.singleton_append]
    exact List.perm_middle.symm
theorem law_order (ns : List Nat) (at_ n : Nat) : IsOrder n (orderL ns at_ n) := by
  obtain ⟨h1, h2, h3⟩ := ord_ok ns at_ n n (Nat.le_refl _)
  have hnil : (ordAt ns at_ n n).1 = [] := List.length_eq_zero_iff.mp (by omega)
  rw [hnil, List.append_nil] at h3
  refine ⟨h2, h3.nodup_iff.mpr List.nodup_range, fun x m => ?_, fun p hp => ?_⟩
  · have := h3.mem_iff.mp m; simpa using this
  · exact h3.mem_iff.mpr (by simpa using hp)
/-! ### edits, turns -/
def linkOf (N : Net) (ns : List Nat) (at_ : Nat) : Link := N.2.getD (ns.getD at_ 0 % N.2.length) (0, 0, none, none)
def editL (N : Net) (ns : List Nat) (at_ : Nat) : Edit :=
  if ((ns.getD (at_ + 1) 0 : Nat) : Int) % 2 = 1 then ((linkOf N ns at_).2.1, (linkOf N ns at_).1, priceL (ns.getD (at_ + 2) 0)) else ((linkOf N ns at_).1, (linkOf N ns at_).2.1, priceL (ns.getD (at_ + 2) 0))
theorem edit_ok {N : Net} (h : LawNet N) (hne : 0 < N.2.length) (ns : List Nat) (at_ : Nat) : PrOk (editL N ns at_).2.2 ∧ Has (linkPrices N.2) (editL N ns at_).1 (editL N ns at_).2.1 := by
  have hp : ns.getD at_ 0 % N.2.length < N.2.length := Nat.mod_lt _ hne
  have hm : linkOf N ns at_ ∈ N.2 := List.mem_of_getElem? (getD_get hp)
  unfold editL
  generalize linkOf N ns at_ = l at hm
  have g1 : tget (linkPrices N.2) (l.1, l.2.1) = some l.2.2.1 := h.get.mpr ⟨l, hm, .inl ⟨rfl, rfl⟩⟩
  have g2 : tget (linkPrices N.2) (l.2.1, l.1) = some l.2.2.2 := h.get.mpr ⟨l, hm, .inr ⟨rfl, rfl⟩⟩
  split
  · refine ⟨price_ok _, ?_⟩
    show (tget (linkPrices N.2) (l.2.1, l.1)).isSome = true
    rw [g2]; rfl
  · refine ⟨price_ok _, ?_⟩
    show (tget (linkPrices N.2) (l.1, l.2.1)).isSome = true
    rw [g1]; rfl
/-- the state of the law: the net that it keeps, its past, the session -/
structure LS where
  net : Net
  past : List Net
  ses : Ses
def threeL (N : Net) (ns : List Nat) (at_ : Nat) : List Edit := [editL N ns (at_ + 1), editL N ns (at_ + 4), editL N ns (at_ + 2)].take (ns.getD (at_ + 7) 0 % 4)
/-- a turn: the kind, what is told, the state behind -/
def isUndo (L : LS) (ns : List Nat) (at_ : Nat) : Bool := decide (ns.getD at_ 0 % 4 = 3) && decide (0 < L.past.length)
def turnEs (L : LS) (ns : List Nat) (at_ : Nat) : List Edit := if ns.getD at_ 0 % 4 = 2 then threeL L.net ns at_ else [editL L.net ns (at_ + 1)]
def lastNet (L : LS) : Net := L.past.getLastD (0, [])
def turnL (L : LS) (ns : List Nat) (at_ : Nat) : LS := if isUndo L ns at_ then ⟨lastNet L, L.past.dropLast, L.ses.undone⟩ else ⟨lawEdits L.net (turnEs L ns at_), L.past ++ [L.net], L.ses.editAll (turnEs L ns at_)⟩
def toldL (L : LS) (ns : List Nat) (at_ : Nat) : List Change := if isUndo L ns at_ then L.ses.undoTold else L.ses.editTold (turnEs L ns at_)
structure LOk (order : List Nat) (L : LS) (i : Nat) : Prop where
  k : Keeps L.net L.past order L.ses
  n : L.past.length ≤ i
  e : 0 < L.net.2.length
theorem turn_es {L : LS} (h : LawNet L.net) (he : 0 < L.net.2.length) (ns : List Nat) (at_ : Nat) : (turnEs L ns at_).length ≤ 1000 ∧ ∀ e ∈ turnEs L ns at_, PrOk e.2.2 ∧ Has (linkPrices L.net.2) e.1 e.2.1 := by
  unfold turnEs
  split
  · unfold threeL
    refine ⟨by rw [List.length_take]; simp; omega, fun e m => ?_⟩
    have m := List.mem_of_mem_take m
    have m : e = editL L.net ns (at_ + 1) ∨ e = editL L.net ns (at_ + 4) ∨ e = editL L.net ns (at_ + 2) := by simpa using m
    rcases m with rfl | rfl | rfl <;> exact edit_ok h he ns _
  · refine ⟨by simp, fun e m => ?_⟩
    obtain rfl : e = editL L.net ns (at_ + 1) := by simpa using m
    exact edit_ok h he ns _
theorem undo_past {L : LS} {ns : List Nat} {at_ : Nat} (h : isUndo L ns at_ = true) : L.past = L.past.dropLast ++ [lastNet L] := by
  unfold isUndo at h
  rw [Bool.and_eq_true] at h
  have hl := of_decide_eq_true h.2
  rcases List.eq_nil_or_concat L.past with e | ⟨xs, x, e⟩
  · rw [e] at hl; simp at hl
  · unfold lastNet
    rw [e, List.concat_eq_append]; simp
theorem turn_ok {L : LS} {order : List Nat} {i : Nat} (h : LOk order L i) (ns : List Nat) (at_ : Nat) : LOk order (turnL L ns at_) (i + 1) ∧ toldL L ns at_ = changesL (fillL L.net order) (fillL (turnL L ns at_).net order) := by
  unfold turnL toldL
  by_cases hu : isUndo L ns at_ = true
  · rw [if_pos hu, if_pos hu]
    have k := h.k
    rw [undo_past hu] at k
    obtain ⟨k1, k2, _⟩ := k.undo
    have hs : SameEnds L.net (lastNet L) := by
      have := k.his
      rw [List.reverse_append] at this
      cases e : L.ses.history.reverse with
      | nil => rw [e] at this; exact this.elim
      | cons es hs => rw [e] at this; exact this.2.2.2.2.1
    refine ⟨⟨k1, by have := h.n; simp; omega, ?_⟩, k2⟩
    have := congrArg List.length hs.2
    rw [List.length_map, List.length_map] at this
    show 0 < (lastNet L).2.length
    rw [← this]; exact h.e
  · rw [if_neg hu, if_neg hu]
    obtain ⟨e1, e2⟩ := turn_es h.k.net h.e ns at_
    obtain ⟨k1, k2⟩ := h.k.edit e1 e2
    obtain ⟨_, hs, _⟩ := edits_ok h.k.net e2
    refine ⟨⟨k1, by have := h.n; show (L.past ++ [L.net]).length ≤ _; simp; omega, ?_⟩, k2⟩
    have := congrArg List.length hs.2
    rw [List.length_map, List.length_map] at this
    show 0 < (lawEdits L.net (turnEs L ns at_)).2.length
    rw [← this]; exact h.e
theorem copy_ok {L : LS} {order : List Nat} {i : Nat} (h : LOk order L i) : LOk order { L with ses := L.ses.copyL } i := ⟨h.k.copy, h.n, h.e⟩
def loopStep (ns : List Nat) (L : LS) (t : Nat) : LS := if t % 3 = 1 then { turnL L ns (100 + 8 * t) with ses := (turnL L ns (100 + 8 * t)).ses.copyL } else turnL L ns (100 + 8 * t)
def loopAt (ns : List Nat) (L : LS) (t : Nat) : LS := (List.range t).foldl (loopStep ns) L
theorem loop_ok {L : LS} {order : List Nat} (h : LOk order L 0) (ns : List Nat) : ∀ t, LOk order (loopAt ns L t) t
  | 0 => h
  | t + 1 => by
    have ih := loop_ok h ns t
    have e : loopAt ns L (t + 1) = loopStep ns (loopAt ns L t) t := by unfold loopAt; rw [List.range_succ, List.foldl_append]; rfl
    rw [e]
    have k := (turn_ok ih ns (100 + 8 * t)).1
    unfold loopStep
    split
    · exact copy_ok k
    · exact k
theorem loop_succ (ns : List Nat) (L : LS) (t : Nat) : loopAt ns L (t + 1) = loopStep ns (loopAt ns L t) t := by unfold loopAt; rw [List.range_succ, List.foldl_append]; rfl
end Ov

/-! ## M24 -/
/-! All answers are the least sums. No library. -/
namespace Ov
open T
def pathSum (P : Tab Int) (road : List Nat) : Nat → Int
  | 0 => 0
  | k + 1 => pathSum P road k + (tget P (road.getD k 0, road.getD (k + 1) 0)).getD 0
structure RoadGood (P : Tab Int) (road : List Nat) (s t : Nat) (d : Int) : Prop where
  hd : road[0]? = some s
  ls : road.getLast? = some t
  nd : road.Nodup
  len : road.length ≤ 1000
  st : ∀ k, k + 1 < road.length → ∃ p, tget P (road.getD k 0, road.getD (k + 1) 0) = some p
  tot : pathSum P road (road.length - 1) = d
theorem pathSum_shift (P : Tab Int) (x : Nat) (road : List Nat) (y : Nat) (h : road.getD 0 0 = y) : ∀ k, pathSum P (x :: road) (k + 1) = (tget P (x, y)).getD 0 + pathSum P road k
  | 0 => by
    unfold pathSum pathSum
    show 0 + (tget P (x, road.getD 0 0)).getD 0 = _
    rw [h]; omega
  | k + 1 => by
    have ih := pathSum_shift P x road y h k
    rw [show pathSum P (x :: road) (k + 1 + 1) = pathSum P (x :: road) (k + 1) + (tget P ((x :: road).getD (k + 1) 0, (x :: road).getD (k + 1 + 1) 0)).getD 0 from rfl, ih]
    show _ + (tget P (road.getD k 0, road.getD (k + 1) 0)).getD 0 = _ + (pathSum P road k + (tget P (road.getD k 0, road.getD (k + 1) 0)).getD 0)
    omega
theorem path_sum {P : Tab Int} {w : Wt} (hw : ∀ a b, tget P (a, b) = w a b) : ∀ {l : List Nat} {x z : Nat} {c : Int}, Path w x l z c → pathSum P (x :: l) l.length = c ∧ (x :: l).getLast? = some z ∧ ∀ k, k < l.length → ∃ p, tget P ((x :: l).getD k 0, (x :: l).getD (k + 1) 0) = some p
  | [], x, z, c, ⟨e1, e2⟩ => ⟨e2.symm, by rw [e1]; rfl, by simp⟩
  | y :: l, x, z, c, ⟨p, d, e1, e2, e3⟩ => by
    obtain ⟨h1, h2, h3⟩ := path_sum hw e2
    refine ⟨?_, by rw [List.getLast?_cons_cons]; exact h2, fun k hk => ?_⟩
    · rw [List.length_cons, pathSum_shift P x (y :: l) y rfl, h1, hw, e1, e3]; rfl
    · cases k with
      | zero => exact ⟨p, by rw [← e1, ← hw]; rfl⟩
      | succ k => exact h3 k (by simpa using hk)
section
variable {N : Net} {order : List Nat} (h : LawNet N) (ho : IsOrder N.1 order)
include h ho
theorem all_paper {s : Nat} (hs : s < N.1) : paperL N s = (List.range N.1).map fun t => tget (lawSums N) (s, t) := by
  have hl : (paperL N s).length = N.1 := by
    unfold paperL
    have key : ∀ (k : Nat) (x : List (Option Int)), ((List.range k).foldl (fun s _ => (openWays N.2).foldl relax s) x).length = x.length := by
      intro k x
      have one : ∀ (ws : List (Nat × Nat × Int)) (x : List (Option Int)), (ws.foldl relax x).length = x.length := by
        intro ws
        induction ws with
        | nil => intro x; rfl
        | cons w ws ih => intro x; rw [List.foldl_cons, ih, relax_length]
      induction k with
      | zero => rfl
      | succ k ih => rw [List.range_succ, List.foldl_append, List.foldl_cons, List.foldl_nil, one, ih]
    rw [key]; simp
  apply List.ext_getElem?
  intro t
  rcases Nat.lt_or_ge t N.1 with g | g
  · rw [map_range_get _ g, getD_get (d := none) (by omega)]
    congr 1
    exact (h.paper hs t).uniq (h.sums hs g)
  · rw [List.getElem?_eq_none (by omega), List.getElem?_eq_none (by simp; omega)]
theorem all_answer {s t : Nat} (hs : s < N.1) (ht : t < N.1) : (answerL order (fillL N order) s t).1 = tget (lawSums N) (s, t) := (answer_dist h.ok ho h.small h.pos hs ht).uniq (h.sums hs ht)
theorem all_answers {s : Nat} (hs : s < N.1) : answersL order (fillL N order) s (List.range N.1) = paperL N s := by
  rw [all_paper h ho hs]
  unfold answersL
  refine List.map_congr_left fun t m => all_answer h ho hs (by simpa using m)
theorem all_thin {s t : Nat} (hs : s < N.1) (ht : t < N.1) : (answerL order (withoutSlack (fillL N order)) s t).1 = tget (lawSums N) (s, t) := (thin_dist h.ok ho h.small h.pos hs ht).uniq (h.sums hs ht)
theorem all_label {s t : Nat} (hs : s < N.1) (ht : t < N.1) : labelAnswer (entriesL ((tget (labDicts order (fillL N order)).1 s).getD [])) (entriesL ((tget (labDicts order (fillL N order)).2 t).getD [])) = tget (lawSums N) (s, t) := (label_dist h.ok ho h.small h.pos hs ht).uniq (h.sums hs ht)
theorem all_road {s t : Nat} (hs : s < N.1) (ht : t < N.1) : (tget (lawSums N) (s, t) = none ∧ answerRoad order (fillL N order) s t = none) ∨ ∃ d ro, tget (lawSums N) (s, t) = some d ∧ answerRoad order (fillL N order) s t = some ro ∧ RoadGood (lawPrices N.2) ro s t d ∧ (∀ p ∈ ro, p < N.1) ∧ roadSumL N.2 ro = some d := by
  have ha := all_answer h ho hs ht
  rcases answer_road h.ok ho h.small hs ht with ⟨e1, e2⟩ | ⟨d, top, l, e1, e2, e3⟩
  · left
    rw [e1] at ha
    exact ⟨ha.symm, e2⟩
  · right
    rw [e1] at ha
    have ha : some d = tget (lawSums N) (s, t) := ha
    have nd : (s :: l).Nodup := e3.least_nodup h.pos fun c' w => by
      obtain ⟨e, he, hle⟩ := (h.sums hs ht).cmp c' w
      rw [← ha] at he; cases he; exact hle
    obtain ⟨p1, p2, p3⟩ := path_sum (P := lawPrices N.2) (w := wN N) h.lawp e3
    have hlt : ∀ p ∈ s :: l, p < N.1 := fun p m => by
      rcases List.mem_cons.mp m with z | m
      · rw [z]; exact hs
      · exact e3.lt h.wlt p m
    have hn := nodup_len nd hlt
    exact ⟨d, s :: l, ha.symm, e2, ⟨rfl, p2, nd, by have := h.n; omega, fun k hk => p3 k (by simpa using hk), by simpa using p1⟩, hlt, h.road e3⟩
theorem paper_ask {s : Nat} (hs : s < N.1) : (paperL N s).length = N.1 ∧ (paperL N s)[s]? = some (some 0) ∧ (∀ w ∈ openWays N.2, ∀ d, (paperL N s).getD w.1 none = some d → ∃ q, (paperL N s).getD w.2.1 none = some q ∧ q ≤ d + w.2.2) ∧ ∀ t, t < N.1 → (paperL N s)[t]? = some (tget (lawSums N) (s, t)) := by
  have e := all_paper h ho hs
  have hl : (paperL N s).length = N.1 := by rw [e]; simp
  have g : ∀ t, t < N.1 → (paperL N s)[t]? = some (tget (lawSums N) (s, t)) := fun t ht => by rw [e, map_range_get _ ht]
  have L := fun z => h.paper hs z
  refine ⟨hl, ?_, fun w m d hd => ?_, g⟩
  · rw [g s hs]
    congr 1
    have hz := (h.sums hs hs).cmp 0 (.nil s)
    obtain ⟨e0, he, hle⟩ := hz
    have := (h.sums hs hs).snd e0 he
    have := this.nonneg fun x y p q => Int.le_of_lt (h.pos x y p q)
    rw [he, show e0 = 0 by omega]
  · have hw := (h.open_iff w).mp m
    have W := ((L w.1).snd d hd).trans (Walk.one hw)
    exact (L w.2.1).cmp _ W
theorem rows_lt : ∀ r ∈ fillL N order, r.1 < order.length ∧ r.2.1 < order.length := fun r m => by
  rw [ho.len]; exact pairs_lt h.ok ho (fill_mem h.ok ho h.small m).1
theorem thin_lt : ∀ r ∈ withoutSlack (fillL N order), r.1 < order.length ∧ r.2.1 < order.length := fun r m => by
  rw [ho.len]; exact pairs_lt h.ok ho (thin_row h.ok ho h.small m).1
end
end Ov

/-! ## T1 -/
/-! The typed layer: representations, typed contexts, judgements. -/
namespace T
open PySem PySem.Spec PyProof.Rows L2

/-! ### heaps -/
theorem same_upd {H : Hp} {p : Addr} {o : HO} (h : H p = none) : Same H (upd H p o) := fun a u e => by
  rw [upd_ne (ne_of_none e h)]; exact e
/-- the evaluation of an expression: the published part, the whole; what was private stays so -/
structure Ext (I H I' H' : Hp) : Prop where
  ii : Same I I'
  hh : Same H H'
  ih : Same I' H'
  pr : ∀ a, H a ≠ none → I a = none → I' a = none
theorem Ext.refl {I H : Hp} (h : Same I H) : Ext I H I H := ⟨Same.refl _, Same.refl _, h, fun _ _ z => z⟩
theorem Ext.trans {I H I1 H1 I2 H2 : Hp} (a : Ext I H I1 H1) (b : Ext I1 H1 I2 H2) : Ext I H I2 H2 :=
  ⟨a.ii.trans b.ii, a.hh.trans b.hh, b.ih, fun c h n => b.pr c (fun z => h (a.hh.free z)) (a.pr c h n)⟩
/-- a new object, published -/
theorem Ext.new {I H : Hp} {p : Addr} {o : HO} (h : Same I H) (hp : H p = none) : Ext I H (upd I p o) (upd H p o) := by
  have ip : I p = none := h.free hp
  refine ⟨same_upd ip, same_upd hp, fun a u e => ?_, fun a ha n => ?_⟩
  · by_cases q : a = p
    · subst q; rw [upd_same] at e ⊢; exact e
    · rw [upd_ne q] at e ⊢; exact h _ _ e
  · rw [upd_ne (fun z => ha (by rw [z]; exact hp))]; exact n
/-- a new object, kept private -/
theorem Ext.own {I H : Hp} {p : Addr} {o : HO} (h : Same I H) (hp : H p = none) : Ext I H I (upd H p o) :=
  ⟨Same.refl _, same_upd hp, h.trans (same_upd hp), fun _ _ n => n⟩

/-! ### representations -/
structure Rep (α : Type) where
  is : Hp → V → α → Prop
  up : ∀ {I J : Hp} {v : V} {x : α}, Same I J → is I v x → is J v x
structure Flat {α : Type} (r : Rep α) : Prop where
  any : ∀ {I J : Hp} {v : V} {x : α}, r.is I v x → r.is J v x
def rInt : Rep Int := ⟨fun _ v x => v = .int x, fun _ h => h⟩
def rNat : Rep Nat := ⟨fun _ v x => v = .int (x : Int), fun _ h => h⟩
def rBl : Rep Bool := ⟨fun _ v x => v = .bl x, fun _ h => h⟩
def rNon : Rep Unit := ⟨fun _ v _ => v = .non, fun _ h => h⟩
def vO : Option Int → V
  | none => .non
  | some i => .int i
def vN : Option Nat → V
  | none => .non
  | some i => .int (i : Int)
def rOpt : Rep (Option Int) := ⟨fun _ v x => v = vO x, fun _ h => h⟩
def rOpN : Rep (Option Nat) := ⟨fun _ v x => v = vN x, fun _ h => h⟩
theorem fInt : Flat rInt := ⟨fun h => h⟩
theorem fNat : Flat rNat := ⟨fun h => h⟩
theorem fBl : Flat rBl := ⟨fun h => h⟩
theorem fNon : Flat rNon := ⟨fun h => h⟩
theorem fOpt : Flat rOpt := ⟨fun h => h⟩
theorem fOpN : Flat rOpN := ⟨fun h => h⟩
section
variable {α β γ : Type}
def rLst (r : Rep α) : Rep (List α) where
  is := fun I v xs => ∃ p vs, v = .ref p ∧ I p = some (.lst vs) ∧ Paired (r.is I) vs xs
  up := fun e h => by
    obtain ⟨p, vs, e1, e2, e3⟩ := h
    exact ⟨p, vs, e1, e _ _ e2, L2.Paired.mapP e3 fun _ _ q => r.up e q⟩
/-- a tuple's items -/
structure Fld (α : Type) where
  is : Hp → List V → α → Prop
  up : ∀ {I J : Hp} {vs : List V} {x : α}, Same I J → is I vs x → is J vs x
  n : Nat
  len : ∀ {I : Hp} {vs : List V} {x : α}, is I vs x → vs.length = n
def fOne (r : Rep α) : Fld α where
  is := fun I vs x => ∃ v, vs = [v] ∧ r.is I v x
  up := fun e h => by
    obtain ⟨v, e1, e2⟩ := h
    exact ⟨v, e1, r.up e e2⟩
  n := 1
  len := fun h => by
    obtain ⟨v, e1, e2⟩ := h
    rw [e1]; rfl
def fCons (r : Rep α) (f : Fld β) : Fld (α × β) where
  is := fun I vs x => ∃ v ws, vs = v :: ws ∧ r.is I v x.1 ∧ f.is I ws x.2
  up := fun e h => by
    obtain ⟨v, ws, e1, e2, e3⟩ := h
    exact ⟨v, ws, e1, r.up e e2, f.up e e3⟩
  n := f.n + 1
  len := fun h => by
    obtain ⟨v, ws, e1, e2, e3⟩ := h
    rw [e1, List.length_cons, f.len e3]
def rTup (f : Fld α) : Rep α where
  is := fun I v x => ∃ p vs, v = .ref p ∧ I p = some (.tup vs) ∧ f.is I vs x
  up := fun e h => by
    obtain ⟨p, vs, e1, e2, e3⟩ := h
    exact ⟨p, vs, e1, e _ _ e2, f.up e e3⟩
abbrev r2 (a : Rep α) (b : Rep β) : Rep (α × β) := rTup (fCons a (fOne b))
abbrev rPP : Rep (Nat × Nat) := r2 rNat rNat
/-- the k-th item of a tuple -/
inductive AtF : {α β : Type} → Fld α → Nat → α → Rep β → β → Prop
  | one {α : Type} {r : Rep α} {x : α} : AtF (fOne r) 0 x r x
  | hd {α β : Type} {r : Rep α} {f : Fld β} {x : α} {y : β} : AtF (fCons r f) 0 (x, y) r x
  | tl {α β γ : Type} {r : Rep α} {f : Fld β} {x : α} {y : β} {k : Nat} {s : Rep γ} {z : γ} : AtF f k y s z → AtF (fCons r f) (k + 1) (x, y) s z
theorem AtF.get {f : Fld α} {k : Nat} {x : α} {s : Rep β} {z : β} (h : AtF f k x s z) : ∀ {I : Hp} {vs : List V}, f.is I vs x → ∃ v, vs[k]? = some v ∧ s.is I v z := by
  induction h with
  | one => intro I vs q; obtain ⟨v, rfl, q⟩ := q; exact ⟨v, rfl, q⟩
  | hd => intro I vs q; obtain ⟨v, ws, rfl, q, _⟩ := q; exact ⟨v, rfl, q⟩
  | tl _ ih => intro I vs q; obtain ⟨v, ws, rfl, _, q⟩ := q; obtain ⟨u, e, z⟩ := ih q; exact ⟨u, e, z⟩

/-! ### dicts as lists of pairs -/
def kI (n : Nat) : Key := Sum.inl (n : Int)
def kP (p : Nat × Nat) : List Key := [Sum.inl (p.1 : Int), Sum.inl (p.2 : Int)]
theorem kI_inj {a b : Nat} (h : kI a = kI b) : a = b := by
  unfold kI at h
  have := Sum.inl.inj h
  omega
theorem kP_inj {a b : Nat × Nat} (h : kP a = kP b) : a = b := by
  unfold kP at h
  obtain ⟨a1, a2⟩ := a
  obtain ⟨b1, b2⟩ := b
  simp only [List.cons.injEq, Sum.inl.injEq, and_true] at h
  obtain ⟨h1, h2⟩ := h
  have e1 : a1 = b1 := by omega
  have e2 : a2 = b2 := by omega
  rw [e1, e2]
/-- the entries stand for the pairs -/
def Ents {κ κ' : Type} (ek : κ → κ') (r : V → α → Prop) (kvs : List (κ' × V)) (t : List (κ × α)) : Prop := Paired (fun p q => p.1 = ek q.1 ∧ r p.2 q.2) kvs t
section
variable {κ κ' : Type} [DecidableEq κ] [DecidableEq κ'] {ek : κ → κ'} {r : V → α → Prop}
theorem Ents.get (inj : ∀ {a b}, ek a = ek b → a = b) {kvs : List (κ' × V)} {t : List (κ × α)} (h : Ents ek r kvs t) (k : κ) :
    (valV kvs (ek k) = none ∧ tget t k = none) ∨ ∃ v x, valV kvs (ek k) = some v ∧ tget t k = some x ∧ r v x := by
  unfold Ents at h
  induction h with
  | nil => exact .inl ⟨rfl, rfl⟩
  | @cons p q ps qs e _ ih =>
    obtain ⟨e1, e2⟩ := e
    by_cases c : q.1 = k
    · refine .inr ⟨p.2, q.2, valV_pos (by rw [e1, c]), ?_, e2⟩
      unfold tget
      rw [List.find?_cons, show decide (q.1 = k) = true from decide_eq_true c]; rfl
    · have n1 : valV (p :: ps) (ek k) = valV ps (ek k) := valV_neg (fun z => c (inj (e1.symm.trans z)))
      have n2 : tget (q :: qs) k = tget qs k := by
        unfold tget
        rw [List.find?_cons, show decide (q.1 = k) = false from decide_eq_false c]
      rw [n1, n2]
      exact ih
theorem Ents.any (inj : ∀ {a b}, ek a = ek b → a = b) {kvs : List (κ' × V)} {t : List (κ × α)} (h : Ents ek r kvs t) (k : κ) : (kvs.any fun p => decide (p.1 = ek k)) = (t.any fun p => decide (p.1 = k)) := by
  unfold Ents at h
  induction h with
  | nil => rfl
  | @cons p q ps qs e _ ih =>
    rw [List.any_cons, List.any_cons, ih]
    congr 1
    rw [e.1]
    exact decide_eq_decide.mpr ⟨fun z => inj z, fun z => by rw [z]⟩
theorem Ents.put (inj : ∀ {a b}, ek a = ek b → a = b) {kvs : List (κ' × V)} {t : List (κ × α)} (h : Ents ek r kvs t) (k : κ) {v : V} {x : α} (hv : r v x) : Ents ek r (putK kvs (ek k) v) (tput t k x) := by
  have ha := Ents.any inj h k
  unfold putK tput
  rw [ha]
  split
  · unfold Ents at h ⊢
    clear ha
    rename_i z; clear z
    induction h with
    | nil => exact .nil
    | @cons p q ps qs e _ ih =>
      rw [List.map_cons, List.map_cons]
      refine .cons ?_ ih
      by_cases c : q.1 = k
      · rw [if_pos c, if_pos (by rw [e.1, c])]; exact ⟨e.1, hv⟩
      · rw [if_neg c, if_neg (fun z => c (inj (e.1.symm.trans z)))]; exact e
  · exact Paired.snoc h ⟨rfl, hv⟩
theorem Ents.length {kvs : List (κ' × V)} {t : List (κ × α)} (h : Ents ek r kvs t) : kvs.length = t.length := Paired.length h
end
def rDic (r : Rep α) : Rep (List (Nat × α)) where
  is := fun I v t => ∃ p kvs, v = .ref p ∧ I p = some (.dK kvs) ∧ Ents kI (r.is I) kvs t
  up := fun e h => by
    obtain ⟨p, kvs, e1, e2, e3⟩ := h
    exact ⟨p, kvs, e1, e _ _ e2, L2.Paired.mapP e3 fun _ _ q => ⟨q.1, r.up e q.2⟩⟩
def rTab (r : Rep α) : Rep (List ((Nat × Nat) × α)) where
  is := fun I v t => ∃ p kvs, v = .ref p ∧ I p = some (.dT kvs) ∧ Ents kP (r.is I) kvs t
  up := fun e h => by
    obtain ⟨p, kvs, e1, e2, e3⟩ := h
    exact ⟨p, kvs, e1, e _ _ e2, L2.Paired.mapP e3 fun _ _ q => ⟨q.1, r.up e q.2⟩⟩

/-! ### what a def owns: private objects that it may change -/
structure Own (α : Type) where
  is : Hp → Hp → V → List Addr → α → Prop
  rep : Rep α
  up : ∀ {I J H G : Hp} {v : V} {f : List Addr} {x : α}, Same I J → (∀ a ∈ f, G a = H a) → is I H v f x → is J G v f x
  pub : ∀ {I H J : Hp} {v : V} {f : List Addr} {x : α}, is I H v f x → Same I J → (∀ a ∈ f, J a = H a) → rep.is J v x
  nt : ∀ {I H : Hp} {v : V} {f : List Addr} {x : α}, is I H v f x → ∀ a ∈ f, ∀ ts, H a ≠ some (.tup ts)
def oLst (r : Rep α) : Own (List α) where
  is := fun I H v f xs => ∃ p vs, v = .ref p ∧ f = [p] ∧ H p = some (.lst vs) ∧ Paired (r.is I) vs xs
  rep := rLst r
  up := fun e g h => by
    obtain ⟨p, vs, e1, rfl, e2, e3⟩ := h
    exact ⟨p, vs, e1, rfl, by rw [g p (by simp)]; exact e2, L2.Paired.mapP e3 fun _ _ q => r.up e q⟩
  pub := fun h e g => by
    obtain ⟨p, vs, e1, rfl, e2, e3⟩ := h
    exact ⟨p, vs, e1, by rw [g p (by simp)]; exact e2, L2.Paired.mapP e3 fun _ _ q => r.up e q⟩
  nt := fun h a m ts z => by
    obtain ⟨p, vs, e1, rfl, e2, e3⟩ := h
    obtain rfl : a = p := by simpa using m
    rw [e2] at z; cases z
def oDic (r : Rep α) : Own (List (Nat × α)) where
  is := fun I H v f t => ∃ p kvs, v = .ref p ∧ f = [p] ∧ H p = some (.dK kvs) ∧ Ents kI (r.is I) kvs t
  rep := rDic r
  up := fun e g h => by
    obtain ⟨p, kvs, e1, rfl, e2, e3⟩ := h
    exact ⟨p, kvs, e1, rfl, by rw [g p (by simp)]; exact e2, L2.Paired.mapP e3 fun _ _ q => ⟨q.1, r.up e q.2⟩⟩
  pub := fun h e g => by
    obtain ⟨p, kvs, e1, rfl, e2, e3⟩ := h
    exact ⟨p, kvs, e1, by rw [g p (by simp)]; exact e2, L2.Paired.mapP e3 fun _ _ q => ⟨q.1, r.up e q.2⟩⟩
  nt := fun h a m ts z => by
    obtain ⟨p, vs, e1, rfl, e2, e3⟩ := h
    obtain rfl : a = p := by simpa using m
    rw [e2] at z; cases z
def oTab (r : Rep α) : Own (List ((Nat × Nat) × α)) where
  is := fun I H v f t => ∃ p kvs, v = .ref p ∧ f = [p] ∧ H p = some (.dT kvs) ∧ Ents kP (r.is I) kvs t
  rep := rTab r
  up := fun e g h => by
    obtain ⟨p, kvs, e1, rfl, e2, e3⟩ := h
    exact ⟨p, kvs, e1, rfl, by rw [g p (by simp)]; exact e2, L2.Paired.mapP e3 fun _ _ q => ⟨q.1, r.up e q.2⟩⟩
  pub := fun h e g => by
    obtain ⟨p, kvs, e1, rfl, e2, e3⟩ := h
    exact ⟨p, kvs, e1, by rw [g p (by simp)]; exact e2, L2.Paired.mapP e3 fun _ _ q => ⟨q.1, r.up e q.2⟩⟩
  nt := fun h a m ts z => by
    obtain ⟨p, vs, e1, rfl, e2, e3⟩ := h
    obtain rfl : a = p := by simpa using m
    rw [e2] at z; cases z
end

/-! ### typed contexts -/
/-- what is known of a slot -/
inductive B : Type 1 where
  | un
  | eq (v : V)
  | pub {α : Type} (r : Rep α) (x : α)
  | own {α : Type} (o : Own α) (x : α)
  | slf {α : Type} (v : V) (o : Own α) (x : α)
  | fact (p : Prop)
  | gho {α : Type} (v : V) (o : Own α) (x : α)
  | gpb {α : Type} (v : V) (r : Rep α) (x : α)
  | rd {α : Type} (v : V) (o : Own α) (x : α)
/-- where a def began: the part published to it, the heap, what of it it may change -/
structure Bs where
  I0 : Hp
  H0 : Hp
  W : List Addr
structure Ok (b : Bs) (I H : Hp) : Prop where
  i0 : Same b.I0 I
  h0 : ∀ a o, b.H0 a = some o → a ∉ b.W → H a = some o
  ih : Same I H
  pr : ∀ a, b.H0 a ≠ none → b.I0 a = none → I a = none
  al : ∀ a, b.H0 a ≠ none → H a ≠ none
def SlotOk (b : Bs) (I H : Hp) (o : Option (Option V)) (s : B) (f : List Addr) : Prop := match s with
  | .un => True
  | .eq v => o = some (some v)
  | .pub r x => ∃ v, o = some (some v) ∧ r.is I v x
  | .own w x => ∃ v, o = some (some v) ∧ w.is I H v f x ∧ ∀ a ∈ f, b.H0 a = none
  | .slf v w x => o = some (some v) ∧ w.is I H v f x ∧ ∀ a ∈ f, b.H0 a = none ∨ a ∈ b.W
  | .fact p => p
  | .gho v w x => w.is I H v f x ∧ ∀ a ∈ f, b.H0 a = none ∨ a ∈ b.W
  | .gpb v r x => r.is I v x
  | .rd v w x => o = some (some v) ∧ w.is I H v f x
structure Cn (b : Bs) (I H : Hp) (σ : List (Option V)) (Γ : List B) (fp : Nat → List Addr) : Prop where
  len : σ.length = Γ.length
  at_ : ∀ i s, Γ[i]? = some s → SlotOk b I H σ[i]? s (fp i)
  dis : ∀ i j a, a ∈ fp i → a ∈ fp j → i = j
  prv : ∀ i a, a ∈ fp i → I a = none ∧ H a ≠ none
  nt : ∀ i a, a ∈ fp i → ∀ ts, H a ≠ some (.tup ts)
/-- the published part and what is owned -/
noncomputable def vw (ρ : Bool) (I H : Hp) (fp : Nat → List Addr) : Hp := open Classical in if ρ then I else fun a => if (∃ i, a ∈ fp i) then H a else I a
section
variable {b : Bs} {I H I' H' : Hp} {σ : List (Option V)} {Γ : List B} {fp : Nat → List Addr}
theorem vw_true : vw true I H fp = I := rfl
theorem vw_mem {i : Nat} {a : Addr} (h : a ∈ fp i) : vw false I H fp a = H a := if_pos ⟨i, h⟩
theorem vw_not {a : Addr} (h : ∀ i, a ∉ fp i) : vw false I H fp a = I a := if_neg fun ⟨i, z⟩ => h i z
theorem vw_same {ρ : Bool} (h : ∀ i a, a ∈ fp i → I a = none ∧ H a ≠ none) : Same I (vw ρ I H fp) := fun a o e => by
  cases ρ with
  | true => exact e
  | false => rw [vw_not fun i m => by rw [(h i a m).1] at e; cases e]; exact e
theorem vw_in {ρ : Bool} (h : Same I H) : Same (vw ρ I H fp) H := fun a o e => by
  cases ρ with
  | true => exact h _ _ e
  | false =>
    by_cases q : ∃ i, a ∈ fp i
    · obtain ⟨i, q⟩ := q; rw [vw_mem q] at e; exact e
    · rw [vw_not fun i m => q ⟨i, m⟩] at e; exact h _ _ e
theorem vw_up {ρ : Bool} (e : Ext I H I' H') : Same (vw ρ I H fp) (vw ρ I' H' fp) := fun a o z => by
  cases ρ with
  | true => exact e.ii _ _ z
  | false =>
    by_cases q : ∃ i, a ∈ fp i
    · obtain ⟨i, q⟩ := q; rw [vw_mem q] at z ⊢; exact e.hh _ _ z
    · rw [vw_not fun i m => q ⟨i, m⟩] at z ⊢; exact e.ii _ _ z
theorem vw_tt {ρ : Bool} (h : ∀ i a, a ∈ fp i → I a = none ∧ H a ≠ none) {ρ' : Bool} (z : ρ' = true → ρ = true) : Same (vw ρ I H fp) (vw ρ' I H fp) := by
  cases ρ' with
  | true => rw [z rfl]; exact Same.refl _
  | false =>
    cases ρ with
    | true => exact vw_same h
    | false => exact Same.refl _
theorem ext_at {a : Addr} (h : H a ≠ none) (e : Ext I H I' H') : H' a = H a := by
  cases q : H a with
  | none => exact absurd q h
  | some o => exact e.hh _ _ q
theorem Cn.up (c : Cn b I H σ Γ fp) (e : Ext I H I' H') : Cn b I' H' σ Γ fp where
  len := c.len
  at_ := fun i s h => by
    have q := c.at_ i s h
    cases s with
    | un => exact q
    | eq v => exact q
    | pub r x => obtain ⟨v, e1, e2⟩ := q; exact ⟨v, e1, r.up e.ii e2⟩
    | own w x => obtain ⟨v, e1, e2, e3⟩ := q; exact ⟨v, e1, w.up e.ii (fun a m => ext_at (c.prv i a m).2 e) e2, e3⟩
    | slf v w x => obtain ⟨e1, e2, e3⟩ := q; exact ⟨e1, w.up e.ii (fun a m => ext_at (c.prv i a m).2 e) e2, e3⟩
    | fact p => exact q
    | gho v w x => obtain ⟨e2, e3⟩ := q; exact ⟨w.up e.ii (fun a m => ext_at (c.prv i a m).2 e) e2, e3⟩
    | gpb v r x => exact r.up e.ii q
    | rd v w x => obtain ⟨e1, e2⟩ := q; exact ⟨e1, w.up e.ii (fun a m => ext_at (c.prv i a m).2 e) e2⟩
  dis := c.dis
  prv := fun i a m => ⟨e.pr a (c.prv i a m).2 (c.prv i a m).1, fun z => (c.prv i a m).2 (e.hh.free z)⟩
  nt := fun i a m ts z => by
    rw [ext_at (c.prv i a m).2 e] at z
    exact c.nt i a m ts z
theorem Ok.up (k : Ok b I H) (e : Ext I H I' H') : Ok b I' H' :=
  ⟨k.i0.trans e.ii, fun a o z w => e.hh _ _ (k.h0 a o z w), e.ih, fun a z n => e.pr a (k.al a z) (k.pr a z n), fun a z n => k.al a z (e.hh.free n)⟩
theorem Cn.lt (c : Cn b I H σ Γ fp) {i : Nat} {s : B} (h : Γ[i]? = some s) : i < σ.length := by
  rw [c.len]; exact (List.getElem?_eq_some_iff.mp h).1
/-- a slot gets a published value -/
theorem Cn.put {α : Type} {r : Rep α} {x : α} {v : V} (c : Cn b I H σ Γ fp) (i : Nat) (h : r.is I v x) : Cn b I H (σ.set i (some v)) (Γ.set i (.pub r x)) (fun j => if j = i then [] else fp j) where
  len := by rw [List.length_set, List.length_set, c.len]
  at_ := fun j s q => by
    by_cases e : i = j
    · subst e
      have hi : i < Γ.length := by
        have := (List.getElem?_eq_some_iff.mp q).1
        rwa [List.length_set] at this
      rw [List.getElem?_set_self hi] at q
      cases q
      exact ⟨v, List.getElem?_set_self (by rw [c.len]; exact hi), h⟩
    · rw [List.getElem?_set_ne e] at q
      rw [List.getElem?_set_ne e, if_neg (fun z => e z.symm)]
      exact c.at_ j s q
  dis := fun j k a hj hk => by
    split at hj
    · simp at hj
    · split at hk
      · simp at hk
      · exact c.dis j k a hj hk
  prv := fun j a m => by
    split at m
    · simp at m
    · exact c.prv j a m
  nt := fun j a m => by
    split at m
    · simp at m
    · exact c.nt j a m
/-- a slot gets an owned object -/
theorem Cn.putOwn {α : Type} {o : Own α} {x : α} {v : V} {f : List Addr} (c : Cn b I H σ Γ fp) (i : Nat) (h : o.is I H v f x) (hf : ∀ a ∈ f, b.H0 a = none) (hn : ∀ a ∈ f, I a = none ∧ H a ≠ none) (hd : ∀ j a, j ≠ i → a ∈ f → a ∉ fp j) :
    Cn b I H (σ.set i (some v)) (Γ.set i (.own o x)) (fun j => if j = i then f else fp j) where
  len := by rw [List.length_set, List.length_set, c.len]
  at_ := fun j s q => by
    by_cases e : i = j
    · subst e
      have hi : i < Γ.length := by
        have := (List.getElem?_eq_some_iff.mp q).1
        rwa [List.length_set] at this
      rw [List.getElem?_set_self hi] at q
      cases q
      rw [if_pos rfl]
      exact ⟨v, List.getElem?_set_self (by rw [c.len]; exact hi), h, hf⟩
    · rw [List.getElem?_set_ne e] at q
      rw [List.getElem?_set_ne e, if_neg (fun z => e z.symm)]
      exact c.at_ j s q
  dis := fun j k a hj hk => by
    split at hj <;> split at hk
    · simp_all
    · exact absurd hk (hd k a (by assumption) hj)
    · exact absurd hj (hd j a (by assumption) hk)
    · exact c.dis j k a hj hk
  prv := fun j a m => by
    split at m
    · exact hn a m
    · exact c.prv j a m
  nt := fun j a m => by
    split at m
    · exact o.nt h a m
    · exact c.nt j a m
/-- an owned object is changed in place -/
theorem Cn.mutOwn {α : Type} {o : Own α} {x : α} {v : V} {f : List Addr} (c : Cn b I H σ Γ fp) {i : Nat} (hi : σ[i]? = some (some v)) (h : o.is I H' v f x) (hf : ∀ a ∈ f, b.H0 a = none) (hn : ∀ a ∈ f, I a = none ∧ H' a ≠ none) (hd : ∀ j a, j ≠ i → a ∈ f → a ∉ fp j)
    (hk : ∀ j a, j ≠ i → a ∈ fp j → H' a = H a) : Cn b I H' σ (Γ.set i (.own o x)) (fun j => if j = i then f else fp j) where
  len := by rw [List.length_set, c.len]
  at_ := fun j s q => by
    by_cases e : i = j
    · subst e
      have hi' : i < Γ.length := by
        have := (List.getElem?_eq_some_iff.mp q).1
        rwa [List.length_set] at this
      rw [List.getElem?_set_self hi'] at q
      cases q
      rw [if_pos rfl]
      exact ⟨v, hi, h, hf⟩
    · rw [List.getElem?_set_ne e] at q
      rw [if_neg (fun z => e z.symm)]
      have q2 := c.at_ j s q
      have hk' : ∀ a ∈ fp j, H' a = H a := fun a m => hk j a (fun z => e z.symm) m
      cases s with
      | un => exact q2
      | eq v => exact q2
      | pub r x => exact q2
      | own w x => obtain ⟨v, e1, e2, e3⟩ := q2; exact ⟨v, e1, w.up (Same.refl _) hk' e2, e3⟩
      | slf v w x => obtain ⟨e1, e2, e3⟩ := q2; exact ⟨e1, w.up (Same.refl _) hk' e2, e3⟩
      | fact p => exact q2
      | gho v w x => obtain ⟨e2, e3⟩ := q2; exact ⟨w.up (Same.refl _) hk' e2, e3⟩
      | gpb v r x => exact q2
      | rd v w x => obtain ⟨e1, e2⟩ := q2; exact ⟨e1, w.up (Same.refl _) hk' e2⟩
  dis := fun j k a hj hk => by
    split at hj <;> split at hk
    · simp_all
    · exact absurd hk (hd k a (by assumption) hj)
    · exact absurd hj (hd j a (by assumption) hk)
    · exact c.dis j k a hj hk
  prv := fun j a m => by
    split at m
    · exact hn a m
    · rename_i z
      rw [hk j a z m]; exact c.prv j a m
  nt := fun j a m => by
    split at m
    · exact o.nt h a m
    · rename_i z
      rw [hk j a z m]; exact c.nt j a m
theorem Cn.mutSlf {α : Type} {o : Own α} {x : α} {v : V} {f : List Addr} (c : Cn b I H σ Γ fp) {i : Nat} (hi : σ[i]? = some (some v)) (h : o.is I H' v f x) (hf : ∀ a ∈ f, b.H0 a = none ∨ a ∈ b.W) (hn : ∀ a ∈ f, I a = none ∧ H' a ≠ none) (hd : ∀ j a, j ≠ i → a ∈ f → a ∉ fp j)
    (hk : ∀ j a, j ≠ i → a ∈ fp j → H' a = H a) : Cn b I H' σ (Γ.set i (.slf v o x)) (fun j => if j = i then f else fp j) where
  len := by rw [List.length_set, c.len]
  at_ := fun j s q => by
    by_cases e : i = j
    · subst e
      have hi' : i < Γ.length := by
        have := (List.getElem?_eq_some_iff.mp q).1
        rwa [List.length_set] at this
      rw [List.getElem?_set_self hi'] at q
      cases q
      rw [if_pos rfl]
      exact ⟨hi, h, hf⟩
    · rw [List.getElem?_set_ne e] at q
      rw [if_neg (fun z => e z.symm)]
      have q2 := c.at_ j s q
      have hk' : ∀ a ∈ fp j, H' a = H a := fun a m => hk j a (fun z => e z.symm) m
      cases s with
      | un => exact q2
      | eq v => exact q2
      | pub r x => exact q2
      | own w x => obtain ⟨v, e1, e2, e3⟩ := q2; exact ⟨v, e1, w.up (Same.refl _) hk' e2, e3⟩
      | slf v w x => obtain ⟨e1, e2, e3⟩ := q2; exact ⟨e1, w.up (Same.refl _) hk' e2, e3⟩
      | fact p => exact q2
      | gho v w x => obtain ⟨e2, e3⟩ := q2; exact ⟨w.up (Same.refl _) hk' e2, e3⟩
      | gpb v r x => exact q2
      | rd v w x => obtain ⟨e1, e2⟩ := q2; exact ⟨e1, w.up (Same.refl _) hk' e2⟩
  dis := fun j k a hj hk => by
    split at hj <;> split at hk
    · simp_all
    · exact absurd hk (hd k a (by assumption) hj)
    · exact absurd hj (hd j a (by assumption) hk)
    · exact c.dis j k a hj hk
  prv := fun j a m => by
    split at m
    · exact hn a m
    · rename_i z
      rw [hk j a z m]; exact c.prv j a m
  nt := fun j a m => by
    split at m
    · exact o.nt h a m
    · rename_i z
      rw [hk j a z m]; exact c.nt j a m
theorem Cn.get_pub {α : Type} {r : Rep α} {x : α} {i : Nat} (c : Cn b I H σ Γ fp) (h : Γ[i]? = some (.pub r x)) : ∃ v, σ[i]? = some (some v) ∧ r.is I v x := c.at_ i _ h
theorem Cn.get_eq {v : V} {i : Nat} (c : Cn b I H σ Γ fp) (h : Γ[i]? = some (.eq v)) : σ[i]? = some (some v) := c.at_ i _ h
theorem Cn.get_own {α : Type} {o : Own α} {x : α} {i : Nat} (c : Cn b I H σ Γ fp) (h : Γ[i]? = some (.own o x)) : ∃ v, σ[i]? = some (some v) ∧ o.is I H v (fp i) x ∧ ∀ a ∈ fp i, b.H0 a = none := c.at_ i _ h
theorem Cn.get_slf {α : Type} {o : Own α} {x : α} {v : V} {i : Nat} (c : Cn b I H σ Γ fp) (h : Γ[i]? = some (.slf v o x)) : σ[i]? = some (some v) ∧ o.is I H v (fp i) x ∧ ∀ a ∈ fp i, b.H0 a = none ∨ a ∈ b.W := c.at_ i _ h
theorem Cn.get_gho {α : Type} {o : Own α} {x : α} {v : V} {i : Nat} (c : Cn b I H σ Γ fp) (h : Γ[i]? = some (.gho v o x)) : o.is I H v (fp i) x ∧ ∀ a ∈ fp i, b.H0 a = none ∨ a ∈ b.W := c.at_ i _ h
theorem Cn.get_gpb {α : Type} {r : Rep α} {x : α} {v : V} {i : Nat} (c : Cn b I H σ Γ fp) (h : Γ[i]? = some (.gpb v r x)) : r.is I v x := c.at_ i _ h
theorem Cn.get_rd {α : Type} {o : Own α} {x : α} {v : V} {i : Nat} (c : Cn b I H σ Γ fp) (h : Γ[i]? = some (.rd v o x)) : σ[i]? = some (some v) ∧ o.is I H v (fp i) x := c.at_ i _ h
theorem Cn.rep_gho {α : Type} {o : Own α} {x : α} {v : V} {i : Nat} (c : Cn b I H σ Γ fp) (h : Γ[i]? = some (.gho v o x)) : o.rep.is (vw false I H fp) v x := o.pub (c.get_gho h).1 (vw_same c.prv) fun a m => vw_mem m
/-- a ghost is changed in place, or comes -/
theorem Cn.putGho {α : Type} {o : Own α} {x : α} {v : V} {f : List Addr} (c : Cn b I H σ Γ fp) {i : Nat} (h : o.is I H' v f x) (hf : ∀ a ∈ f, b.H0 a = none ∨ a ∈ b.W) (hn : ∀ a ∈ f, I a = none ∧ H' a ≠ none) (hd : ∀ j a, j ≠ i → a ∈ f → a ∉ fp j)
    (hk : ∀ j a, j ≠ i → a ∈ fp j → H' a = H a) : Cn b I H' σ (Γ.set i (.gho v o x)) (fun j => if j = i then f else fp j) where
  len := by rw [List.length_set, c.len]
  at_ := fun j s q => by
    by_cases e : i = j
    · subst e
      have hi' : i < Γ.length := by
        have := (List.getElem?_eq_some_iff.mp q).1
        rwa [List.length_set] at this
      rw [List.getElem?_set_self hi'] at q
      cases q
      rw [if_pos rfl]
      exact ⟨h, hf⟩
    · rw [List.getElem?_set_ne e] at q
      rw [if_neg (fun z => e z.symm)]
      have q2 := c.at_ j s q
      have hk' : ∀ a ∈ fp j, H' a = H a := fun a m => hk j a (fun z => e z.symm) m
      cases s with
      | un => exact q2
      | eq v => exact q2
      | pub r x => exact q2
      | own w x => obtain ⟨v, e1, e2, e3⟩ := q2; exact ⟨v, e1, w.up (Same.refl _) hk' e2, e3⟩
      | slf v w x => obtain ⟨e1, e2, e3⟩ := q2; exact ⟨e1, w.up (Same.refl _) hk' e2, e3⟩
      | fact p => exact q2
      | gho v w x => obtain ⟨e2, e3⟩ := q2; exact ⟨w.up (Same.refl _) hk' e2, e3⟩
      | gpb v r x => exact q2
      | rd v w x => obtain ⟨e1, e2⟩ := q2; exact ⟨e1, w.up (Same.refl _) hk' e2⟩
  dis := fun j k a hj hk => by
    split at hj <;> split at hk
    · simp_all
    · exact absurd hk (hd k a (by assumption) hj)
    · exact absurd hj (hd j a (by assumption) hk)
    · exact c.dis j k a hj hk
  prv := fun j a m => by
    split at m
    · exact hn a m
    · rename_i z
      rw [hk j a z m]; exact c.prv j a m
  nt := fun j a m => by
    split at m
    · exact o.nt h a m
    · rename_i z
      rw [hk j a z m]; exact c.nt j a m
theorem Cn.rep_own {α : Type} {o : Own α} {x : α} {i : Nat} (c : Cn b I H σ Γ fp) (h : Γ[i]? = some (.own o x)) : ∃ v, σ[i]? = some (some v) ∧ o.rep.is (vw false I H fp) v x := by
  obtain ⟨v, e1, e2, _⟩ := c.get_own h
  exact ⟨v, e1, o.pub e2 (vw_same c.prv) fun a m => vw_mem m⟩
theorem Cn.rep_slf {α : Type} {o : Own α} {x : α} {v : V} {i : Nat} (c : Cn b I H σ Γ fp) (h : Γ[i]? = some (.slf v o x)) : σ[i]? = some (some v) ∧ o.rep.is (vw false I H fp) v x := by
  obtain ⟨e1, e2, _⟩ := c.get_slf h
  exact ⟨e1, o.pub e2 (vw_same c.prv) fun a m => vw_mem m⟩
/-- an owned object is published: the published part grows by it -/
noncomputable def grow (I H : Hp) (f : List Addr) : Hp := open Classical in fun a => if a ∈ f then H a else I a
theorem grow_in {f : List Addr} {a : Addr} (h : a ∈ f) : grow I H f a = H a := if_pos h
theorem grow_out {f : List Addr} {a : Addr} (h : a ∉ f) : grow I H f a = I a := if_neg h
theorem Cn.publish {α : Type} {o : Own α} {x : α} {i : Nat} (c : Cn b I H σ Γ fp) (k : Ok b I H) (h : Γ[i]? = some (.own o x)) :
    Ok b (grow I H (fp i)) H ∧ Same I (grow I H (fp i)) ∧ Cn b (grow I H (fp i)) H σ (Γ.set i (.pub o.rep x)) (fun j => if j = i then [] else fp j) := by
  obtain ⟨v, e1, e2, e3⟩ := c.get_own h
  have s1 : Same I (grow I H (fp i)) := fun a u e => by
    rw [grow_out fun m => by rw [(c.prv i a m).1] at e; cases e]; exact e
  refine ⟨⟨k.i0.trans s1, k.h0, fun a u e => ?_, fun a z n => ?_, k.al⟩, s1, ?_⟩
  · by_cases m : a ∈ fp i
    · rw [grow_in m] at e; exact e
    · rw [grow_out m] at e; exact k.ih _ _ e
  · rw [grow_out fun m => z (e3 a m)]; exact k.pr a z n
  · refine ⟨by rw [List.length_set, c.len], fun j s q => ?_, fun j l a hj hl => ?_, fun j a m => ?_, fun j a m => ?_⟩
    · by_cases e : i = j
      · subst e
        have hi' : i < Γ.length := (List.getElem?_eq_some_iff.mp h).1
        rw [List.getElem?_set_self hi'] at q
        cases q
        exact ⟨v, e1, o.pub e2 s1 fun a m => grow_in m⟩
      · rw [List.getElem?_set_ne e] at q
        rw [if_neg (fun z => e z.symm)]
        have q2 := c.at_ j s q
        cases s with
        | un => exact q2
        | eq v => exact q2
        | pub r x => obtain ⟨v, z1, z2⟩ := q2; exact ⟨v, z1, r.up s1 z2⟩
        | own w x => obtain ⟨v, z1, z2, z3⟩ := q2; exact ⟨v, z1, w.up s1 (fun _ _ => rfl) z2, z3⟩
        | slf v w x => obtain ⟨z1, z2, z3⟩ := q2; exact ⟨z1, w.up s1 (fun _ _ => rfl) z2, z3⟩
        | fact p => exact q2
        | gho v w x => obtain ⟨z2, z3⟩ := q2; exact ⟨w.up s1 (fun _ _ => rfl) z2, z3⟩
        | gpb v r x => exact r.up s1 q2
        | rd v w x => obtain ⟨z1, z2⟩ := q2; exact ⟨z1, w.up s1 (fun _ _ => rfl) z2⟩
    · split at hj
      · simp at hj
      · split at hl
        · simp at hl
        · exact c.dis j l a hj hl
    · split at m
      · simp at m
      · rename_i z
        refine ⟨?_, (c.prv j a m).2⟩
        rw [grow_out fun m2 => z (c.dis j i a m m2)]
        exact (c.prv j a m).1
    · split at m
      · simp at m
      · exact c.nt j a m
/-- less is known -/
inductive LeB : B → B → Prop where
  | same {s : B} : LeB s s
  | un {s : B} : LeB s .un
  | fact {s : B} {p : Prop} (h : p) : LeB s (.fact p)
inductive Le : List B → List B → Prop where
  | nil : Le [] []
  | cons {a b : B} {l m : List B} : LeB a b → Le l m → Le (a :: l) (b :: m)
theorem Le.length {Γ Δ : List B} (h : Le Γ Δ) : Γ.length = Δ.length := by
  induction h with
  | nil => rfl
  | cons _ _ ih => rw [List.length_cons, List.length_cons, ih]
theorem Le.refl : ∀ Γ : List B, Le Γ Γ
  | [] => .nil
  | _ :: r => .cons .same (Le.refl r)
theorem Le.get {Γ Δ : List B} (h : Le Γ Δ) : ∀ {i : Nat} {s : B}, Δ[i]? = some s → ∃ t, Γ[i]? = some t ∧ LeB t s := by
  induction h with
  | nil => intro i s q; simp at q
  | @cons a b l m r _ ih =>
    intro i s q
    cases i with
    | zero =>
      rw [List.getElem?_cons_zero] at q
      cases q
      exact ⟨a, rfl, r⟩
    | succ i => simpa using ih (i := i) (by simpa using q)
theorem Cn.le {Δ : List B} (c : Cn b I H σ Γ fp) (h : Le Γ Δ) : Cn b I H σ Δ fp where
  len := by rw [c.len]; exact h.length
  at_ := fun i s q => by
    obtain ⟨t, e, l⟩ := h.get q
    cases l with
    | same => exact c.at_ i _ e
    | un => trivial
    | fact h => exact h
  dis := c.dis
  prv := c.prv
  nt := c.nt
end
end T

/-! ## T2 -/
/-! The typed layer: judgements and rules for expressions. -/
namespace T
open PySem PySem.Spec PyProof.Rows L2

/-! ### the strongest readings -/
def wE (X : Cx) (e : Expr) : TE := fun σ H Q => ∀ (pins : List (Addr × Obj)) (s : Shared), Inv X pins σ H s → wpAny (model X.prog X.w) X.A (eval e X.env) (EP X pins σ Q) X.xe s
def wT (X : Cx) (c : Expr) : TT := fun σ H Q => ∀ (pins : List (Addr × Obj)) (s : Shared), Inv X pins σ H s → wpAny (model X.prog X.w) X.A (isTrue c X.env (eval c X.env)) (TP X pins σ Q) X.xe s
def wW (X : Cx) (c : Expr) : TT := fun σ H Q => ∀ (whole : Sem Value) (pins : List (Addr × Obj)) (s : Shared), Inv X pins σ H s → wpAny (model X.prog X.w) X.A (isTrue c X.env whole) (TP X pins σ Q) X.xe s
def wA (X : Cx) (es : List Expr) : TA := fun σ H Q => ∀ (pos : Pos) (pins : List (Addr × Obj)) (s : Shared), Inv X pins σ H s → wpAny (model X.prog X.w) X.A (spliced (backTo pos (starEach es X.env))) (AP X pins σ Q) X.xe s
def wS (X : Cx) (st : Stmt) : TS := fun D σ H => ∀ (pins : List (Addr × Obj)) (s : Shared), Inv X pins σ H s → wpAny (model X.prog X.w) X.A (exec st X.env) (SP X pins D) X.xe s
def wSs (X : Cx) (sts : List Stmt) : TS := fun D σ H => ∀ (pins : List (Addr × Obj)) (s : Shared), Inv X pins σ H s → wpAny (model X.prog X.w) X.A (execs sts X.env) (SP X pins D) X.xe s
def wG (X : Cx) (tg : Expr) : TG := fun v σ H Q => ∀ (pins : List (Addr × Obj)) (s : Shared) (u : Value), Inv X pins σ H s → RelV v u → wpAny (model X.prog X.w) X.A (assign tg X.env u) (fun _ s' => ∃ σ' H', Inv X pins σ' H' s' ∧ Q σ' H') X.xe s
def wGs (X : Cx) (tgs : List Expr) : TGs := fun vs σ H Q => ∀ (pins : List (Addr × Obj)) (s : Shared) (us : List Value), Inv X pins σ H s → Vals vs us → wpAny (model X.prog X.w) X.A (assignInOrder ((assignEach tgs X.env).map (·.2)) us) (fun _ s' => ∃ σ' H', Inv X pins σ' H' s' ∧ Q σ' H') X.xe s
section
variable {X : Cx} {e c : Expr} {es : List Expr} {st : Stmt} {sts : List Stmt} {σ : L2.St} {H : Hp} {te : TE} {tt : TT} {ta : TA} {ts : TS} {g : TG} {gs : TGs}
theorem pe_w : PE X e (wE X e) := ⟨fun pins s _ _ _ I h => h pins s I⟩
theorem pt_w : PT X c (wT X c) := ⟨fun pins s _ _ _ I h => h pins s I⟩
theorem pw_w : PW X c (wW X c) := ⟨fun w pins s _ _ _ I h => h w pins s I⟩
theorem pa_w : PA X es (wA X es) := ⟨fun pos pins s _ _ _ I h => h pos pins s I⟩
theorem ps_w : PS X st (wS X st) := ⟨fun pins s _ _ _ I h => h pins s I⟩
theorem pss_w : PSs X sts (wSs X sts) := ⟨fun pins s _ _ _ I h => h pins s I⟩
theorem pg_w : PG X e (wG X e) := ⟨fun pins s _ _ _ u _ I r h => h pins s u I r⟩
theorem pgs_w : PGs X es (wGs X es) := ⟨fun pins s _ _ _ us _ I r h => h pins s us I r⟩
theorem PE.w (h : PE X e te) {Q : VK} (q : te σ H Q) : wE X e σ H Q := fun pins s I => h.run pins s σ H Q I q
theorem PT.w (h : PT X c tt) {Q : Bool → Hp → Prop} (q : tt σ H Q) : wT X c σ H Q := fun pins s I => h.run pins s σ H Q I q
theorem PW.w (h : PW X c tt) {Q : Bool → Hp → Prop} (q : tt σ H Q) : wW X c σ H Q := fun w pins s I => h.run w pins s σ H Q I q
theorem PA.w (h : PA X es ta) {Q : List V → Hp → Prop} (q : ta σ H Q) : wA X es σ H Q := fun pos pins s I => h.run pos pins s σ H Q I q
theorem PS.w (h : PS X st ts) {D : Ends} (q : ts D σ H) : wS X st D σ H := fun pins s I => h.run pins s σ H D I q
theorem PSs.w (h : PSs X sts ts) {D : Ends} (q : ts D σ H) : wSs X sts D σ H := fun pins s I => h.run pins s σ H D I q
theorem PG.w (h : PG X e g) {v : V} {Q : L2.St → Hp → Prop} (q : g v σ H Q) : wG X e v σ H Q := fun pins s u I r => h.run pins s σ H v u Q I r q
theorem PGs.w (h : PGs X es gs) {vs : List V} {Q : L2.St → Hp → Prop} (q : gs vs σ H Q) : wGs X es vs σ H Q := fun pins s us I r => h.run pins s σ H vs us Q I r q
theorem wW.wT {Q : Bool → Hp → Prop} (h : wW X c σ H Q) : wT X c σ H Q := fun pins s I => h _ pins s I
end

/-! ### lists side by side -/
section
variable {α β γ : Type}
theorem prd_append {F : α → β → Prop} : ∀ {a c : List α} {b d : List β}, Paired F a b → Paired F c d → Paired F (a ++ c) (b ++ d)
  | _, _, _, _, .nil, q => q
  | _, _, _, _, .cons r t, q => .cons r (prd_append t q)
theorem prd_get {F : α → β → Prop} : ∀ {a : List α} {b : List β} {i : Nat} {y : β}, Paired F a b → b[i]? = some y → ∃ x, a[i]? = some x ∧ F x y
  | _, _, _, _, .nil, e => by simp at e
  | _, _, 0, _, .cons r _, e => by simp at e; subst e; exact ⟨_, rfl, r⟩
  | _, _, i + 1, y, .cons _ t, e => by
    obtain ⟨u, h1, h2⟩ := prd_get (i := i) (y := y) t (by simpa using e)
    exact ⟨u, by simpa using h1, h2⟩
theorem prd_get' {F : α → β → Prop} : ∀ {a : List α} {b : List β} {i : Nat} {x : α}, Paired F a b → a[i]? = some x → ∃ y, b[i]? = some y ∧ F x y
  | _, _, _, _, .nil, e => by simp at e
  | _, _, 0, _, .cons r _, e => by simp at e; subst e; exact ⟨_, rfl, r⟩
  | _, _, i + 1, y, .cons _ t, e => by
    obtain ⟨u, h1, h2⟩ := prd_get' (i := i) (x := y) t (by simpa using e)
    exact ⟨u, by simpa using h1, h2⟩
theorem prd_set {F : α → β → Prop} {x : α} {y : β} (h : F x y) : ∀ {a : List α} {b : List β} (i : Nat), Paired F a b → Paired F (a.set i x) (b.set i y)
  | _, _, _, .nil => .nil
  | _, _, 0, .cons _ t => .cons h t
  | _, _, i + 1, .cons q t => .cons q (prd_set h i t)
theorem prd_take {F : α → β → Prop} : ∀ {a : List α} {b : List β} (i : Nat), Paired F a b → Paired F (a.take i) (b.take i)
  | _, _, 0, _ => .nil
  | _, _, _ + 1, .nil => .nil
  | _, _, i + 1, .cons q t => .cons q (prd_take i t)
theorem prd_drop {F : α → β → Prop} : ∀ {a : List α} {b : List β} (i : Nat), Paired F a b → Paired F (a.drop i) (b.drop i)
  | _, _, 0, h => h
  | _, _, _ + 1, .nil => .nil
  | _, _, i + 1, .cons _ t => prd_drop i t
theorem prd_rev {F : α → β → Prop} : ∀ {a : List α} {b : List β}, Paired F a b → Paired F a.reverse b.reverse
  | _, _, .nil => .nil
  | _, _, .cons q t => by rw [List.reverse_cons, List.reverse_cons]; exact Paired.snoc (prd_rev t) q
theorem prd_rep {F : α → β → Prop} {x : α} {y : β} (h : F x y) : ∀ n : Nat, Paired F (List.replicate n x) (List.replicate n y)
  | 0 => .nil
  | n + 1 => .cons h (prd_rep h n)
theorem prd_map {F : α → β → Prop} {f : γ → β} {g : γ → α} : ∀ {l : List γ}, (∀ c ∈ l, F (g c) (f c)) → Paired F (l.map g) (l.map f)
  | [], _ => .nil
  | c :: l, h => .cons (h c (by simp)) (prd_map fun d m => h d (by simp [m]))
theorem prd_atI {F : α → β → Prop} {a : List α} {b : List β} {i : Int} {y : β} (h : Paired F a b) (e : atI b i = some y) : ∃ x, atI a i = some x ∧ F x y := by
  unfold atI at e ⊢
  rw [Paired.length h]
  cases q : ixN b.length i with
  | none => rw [q] at e; cases e
  | some j => rw [q] at e; exact prd_get h e
end

/-! ### the judgements -/
section
variable {α β γ : Type}
/-- the expression gives x, told by r in the published part (ρ) or in that and what is owned -/
def Ev (ρ : Bool) (X : Cx) (Γ : List B) (e : Expr) (r : Rep α) (x : α) : Prop := ∀ (b : Bs) (σ : L2.St) (I H : Hp) (fp : Nat → List Addr), Same I H → Cn b I H σ Γ fp →
  ∀ Q : VK, (∀ v I' H', Ext I H I' H' → r.is (vw ρ I' H' fp) v x → Q v H') → wE X e σ H Q
/-- it gives some x that has P -/
def EvP (ρ : Bool) (X : Cx) (Γ : List B) (e : Expr) (r : Rep α) (P : α → Prop) : Prop := ∀ (b : Bs) (σ : L2.St) (I H : Hp) (fp : Nat → List Addr), Same I H → Cn b I H σ Γ fp →
  ∀ Q : VK, (∀ v I' H' x, Ext I H I' H' → r.is (vw ρ I' H' fp) v x → P x → Q v H') → wE X e σ H Q
/-- it gives a new object that nobody else has -/
def EvN (X : Cx) (Γ : List B) (e : Expr) (o : Own α) (x : α) : Prop := ∀ (b : Bs) (σ : L2.St) (I H : Hp) (fp : Nat → List Addr), Same I H → Cn b I H σ Γ fp →
  ∀ Q : VK, (∀ v I' H' f, Ext I H I' H' → o.is I' H' v f x → (∀ a ∈ f, H a = none ∧ I' a = none ∧ H' a ≠ none) → Q v H') → wE X e σ H Q
def EvT (X : Cx) (Γ : List B) (c : Expr) (t : Bool) : Prop := ∀ (b : Bs) (σ : L2.St) (I H : Hp) (fp : Nat → List Addr), Same I H → Cn b I H σ Γ fp →
  ∀ Q : Bool → Hp → Prop, (∀ I' H', Ext I H I' H' → Q t H') → wT X c σ H Q
def EvW (X : Cx) (Γ : List B) (c : Expr) (t : Bool) : Prop := ∀ (b : Bs) (σ : L2.St) (I H : Hp) (fp : Nat → List Addr), Same I H → Cn b I H σ Γ fp →
  ∀ Q : Bool → Hp → Prop, (∀ I' H', Ext I H I' H' → Q t H') → wW X c σ H Q
/-- arguments, a tuple's items -/
def EvF (ρ : Bool) (X : Cx) (Γ : List B) (es : List Expr) (f : Fld α) (x : α) : Prop := ∀ (b : Bs) (σ : L2.St) (I H : Hp) (fp : Nat → List Addr), Same I H → Cn b I H σ Γ fp →
  ∀ Q : List V → Hp → Prop, (∀ vs I' H', Ext I H I' H' → f.is (vw ρ I' H' fp) vs x → Q vs H') → wA X es σ H Q
/-- a list's items -/
def EvI (X : Cx) (Γ : List B) (es : List Expr) (r : Rep α) (xs : List α) : Prop := ∀ (b : Bs) (σ : L2.St) (I H : Hp) (fp : Nat → List Addr), Same I H → Cn b I H σ Γ fp →
  ∀ Q : List V → Hp → Prop, (∀ vs I' H', Ext I H I' H' → Paired (r.is I') vs xs → Q vs H') → wA X es σ H Q
variable {ρ ρ' ρ'' : Bool} {X : Cx} {Γ : List B} {e e1 e2 c : Expr} {es : List Expr} {r : Rep α} {x : α} {pos : Pos}
theorem Ev.p (h : Ev ρ X Γ e r x) : EvP ρ X Γ e r (fun y => y = x) := fun b σ I H fp s k Q q => h b σ I H fp s k Q fun v I' H' e z => q v I' H' x e z rfl
theorem EvP.ev (h : EvP ρ X Γ e r (fun y => y = x)) : Ev ρ X Γ e r x := fun b σ I H fp s k Q q => h b σ I H fp s k Q fun v I' H' y e z p => q v I' H' e (by rw [← p]; exact z)
theorem EvP.imp {P P' : α → Prop} (h : EvP ρ X Γ e r P) (hp : ∀ x, P x → P' x) : EvP ρ X Γ e r P' := fun b σ I H fp s k Q q => h b σ I H fp s k Q fun v I' H' y e z p => q v I' H' y e z (hp _ p)
theorem Ev.is {y : α} (h : Ev ρ X Γ e r x) (q : x = y) : Ev ρ X Γ e r y := q ▸ h
theorem Ev.any (h : Ev true X Γ e r x) : Ev ρ X Γ e r x := fun b σ I H fp s k Q q => h b σ I H fp s k Q fun v I' H' e z => q v I' H' e (r.up (vw_same (k.up e).prv) z)
theorem Ev.w (h : Ev ρ X Γ e r x) : Ev false X Γ e r x := fun b σ I H fp s k Q q => h b σ I H fp s k Q fun v I' H' e z => q v I' H' e (r.up (vw_tt (k.up e).prv (fun z => nomatch z)) z)
theorem Ev.flat (f : Flat r) (h : Ev ρ X Γ e r x) : Ev ρ' X Γ e r x := fun b σ I H fp s k Q q => h b σ I H fp s k Q fun v I' H' e z => q v I' H' e (f.any z)
theorem EvP.flat {P : α → Prop} (f : Flat r) (h : EvP ρ X Γ e r P) : EvP ρ' X Γ e r P := fun b σ I H fp s k Q q => h b σ I H fp s k Q fun v I' H' y e z p => q v I' H' y e (f.any z) p
theorem EvT.is {t t' : Bool} (h : EvT X Γ c t) (q : t = t') : EvT X Γ c t' := q ▸ h
theorem EvN.pub {o : Own α} (h : EvN X Γ e o x) : Ev ρ X Γ e o.rep x := Ev.any fun b σ I H fp s k Q q => h b σ I H fp s k Q fun v I' H' f E z n => by
  have s1 : Same I' (grow I' H' f) := fun a u e => by
    rw [grow_out fun m => by rw [(n a m).2.1] at e; cases e]; exact e
  refine q v (grow I' H' f) H' ⟨E.ii.trans s1, E.hh, fun a u e => ?_, fun a ha n' => ?_⟩ (o.pub z s1 fun a m => grow_in m)
  · by_cases m : a ∈ f
    · rw [grow_in m] at e; exact e
    · rw [grow_out m] at e; exact E.ih _ _ e
  · rw [grow_out fun m => ha (n a m).1]; exact E.pr a ha n'

/-- all items flat -/
structure FFlat (f : Fld α) : Prop where
  any : ∀ {I J : Hp} {vs : List V} {x : α}, f.is I vs x → f.is J vs x
theorem ff_one (h : Flat r) : FFlat (fOne r) := ⟨fun z => by obtain ⟨v, e, z⟩ := z; exact ⟨v, e, h.any z⟩⟩
theorem ff_cons {f : Fld β} (h : Flat r) (k : FFlat f) : FFlat (fCons r f) := ⟨fun z => by obtain ⟨v, ws, e, z1, z2⟩ := z; exact ⟨v, ws, e, h.any z1, k.any z2⟩⟩
/-- a tuple is nobody's own -/
theorem tup_pub {f : Fld α} {b : Bs} {I H : Hp} {σ : L2.St} {fp : Nat → List Addr} {v : V} (ff : FFlat f) (c : Cn b I H σ Γ fp) (h : (rTup f).is (vw ρ I H fp) v x) : (rTup f).is I v x := by
  obtain ⟨p, vs, rfl, a, z⟩ := h
  refine ⟨p, vs, rfl, ?_, ff.any z⟩
  cases ρ with
  | true => exact a
  | false =>
    by_cases q : ∃ i, p ∈ fp i
    · obtain ⟨i, m⟩ := q
      rw [vw_mem m] at a
      exact absurd a (c.nt i p m vs)
    · rw [vw_not fun i m => q ⟨i, m⟩] at a
      exact a
theorem Ev.tup {f : Fld α} (ff : FFlat f) (h : Ev ρ X Γ e (rTup f) x) : Ev ρ' X Γ e (rTup f) x := Ev.any fun b σ I H fp s k Q q => h b σ I H fp s k Q fun v I' H' e z => q v I' H' e (tup_pub ff (k.up e) z)

/-! ### names, constants -/
theorem ev_pub {n : Str} (i : Nat) (g : Γ[i]? = some (.pub r x) := by rfl) (hN : X.N[i]? = some n := by rfl) (hv : Vis X.env.scope n := by first | exact Or.inl rfl | exact Or.inr (Or.inl rfl) | exact Or.inr (Or.inr rfl))
    (hd : (n == ("__debug__" : Str)) = false := by decide) (hcd : (n == ("__classdict__" : Str)) = false := by decide) : Ev true X Γ (.Name n pos) r x := fun b σ I H fp s k Q q => by
  obtain ⟨v, e, z⟩ := k.get_pub g
  exact PE.w (pv i hN hv hd hcd) ⟨v, e, q v I H (Ext.refl s) z⟩
theorem ev_own {o : Own α} {n : Str} (i : Nat) (g : Γ[i]? = some (.own o x) := by rfl) (hN : X.N[i]? = some n := by rfl) (hv : Vis X.env.scope n := by first | exact Or.inl rfl | exact Or.inr (Or.inl rfl) | exact Or.inr (Or.inr rfl))
    (hd : (n == ("__debug__" : Str)) = false := by decide) (hcd : (n == ("__classdict__" : Str)) = false := by decide) : Ev false X Γ (.Name n pos) o.rep x := fun b σ I H fp s k Q q => by
  obtain ⟨v, e, z⟩ := k.rep_own g
  exact PE.w (pv i hN hv hd hcd) ⟨v, e, q v I H (Ext.refl s) z⟩
theorem ev_slf {o : Own α} {n : Str} {v : V} (i : Nat) (g : Γ[i]? = some (.slf v o x) := by rfl) (hN : X.N[i]? = some n := by rfl) (hv : Vis X.env.scope n := by first | exact Or.inl rfl | exact Or.inr (Or.inl rfl) | exact Or.inr (Or.inr rfl))
    (hd : (n == ("__debug__" : Str)) = false := by decide) (hcd : (n == ("__classdict__" : Str)) = false := by decide) : Ev false X Γ (.Name n pos) o.rep x := fun b σ I H fp s k Q q => by
  obtain ⟨e, z⟩ := k.rep_slf g
  exact PE.w (pv i hN hv hd hcd) ⟨v, e, q v I H (Ext.refl s) z⟩
theorem ev_int {i : Int} {j : Nat} : Ev true X Γ (.Constant (.int i) j pos) rInt i := fun b σ I H fp s k Q q => PE.w pe_int (q _ I H (Ext.refl s) rfl)
theorem ev_nat {i : Nat} {j : Nat} : Ev true X Γ (.Constant (.int (i : Int)) j pos) rNat i := fun b σ I H fp s k Q q => PE.w pe_int (q _ I H (Ext.refl s) rfl)
theorem ev_bl {i : Bool} {j : Nat} : Ev true X Γ (.Constant (.bool i) j pos) rBl i := fun b σ I H fp s k Q q => PE.w pe_bl (q _ I H (Ext.refl s) rfl)
theorem ev_non {j : Nat} : Ev true X Γ (.Constant .none j pos) rOpt none := fun b σ I H fp s k Q q => PE.w pe_non (q _ I H (Ext.refl s) rfl)
theorem ev_nonN {j : Nat} : Ev true X Γ (.Constant .none j pos) rOpN none := fun b σ I H fp s k Q q => PE.w pe_non (q _ I H (Ext.refl s) rfl)
theorem ev_globI {n : Str} {i : Int} (hg : Gl X n) (hm : ∃ t, X.mg n = some (.int i t)) (hd : (n == ("__debug__" : Str)) = false := by decide) : Ev true X Γ (.Name n pos) rInt i := fun b σ I H fp s k Q q => by
  obtain ⟨t, hm⟩ := hm
  exact PE.w (pe_glob (v := .int i) hg hm ⟨t, rfl⟩ hd) (q _ I H (Ext.refl s) rfl)
/-! ### flat things under another name -/
theorem Ev.nat {n : Nat} (h : Ev true X Γ e rInt (n : Int)) : Ev true X Γ e rNat n := fun b σ I H fp s k Q q => h b σ I H fp s k Q fun v I' H' e z => q v I' H' e z
theorem Ev.int {n : Nat} (h : Ev true X Γ e rNat n) : Ev true X Γ e rInt (n : Int) := fun b σ I H fp s k Q q => h b σ I H fp s k Q fun v I' H' e z => q v I' H' e z
theorem Ev.opt {n : Int} (h : Ev true X Γ e rInt n) : Ev true X Γ e rOpt (some n) := fun b σ I H fp s k Q q => h b σ I H fp s k Q fun v I' H' e z => q v I' H' e z
theorem Ev.unopt {n : Int} (h : Ev true X Γ e rOpt (some n)) : Ev true X Γ e rInt n := fun b σ I H fp s k Q q => h b σ I H fp s k Q fun v I' H' e z => q v I' H' e z
theorem Ev.opN {n : Nat} (h : Ev true X Γ e rNat n) : Ev true X Γ e rOpN (some n) := fun b σ I H fp s k Q q => h b σ I H fp s k Q fun v I' H' e z => q v I' H' e z
theorem Ev.unopN {n : Nat} (h : Ev true X Γ e rOpN (some n)) : Ev true X Γ e rNat n := fun b σ I H fp s k Q q => h b σ I H fp s k Q fun v I' H' e z => q v I' H' e z

/-! ### two in a row -/
theorem ev_two {s : Rep β} {y : β} (h1 : Ev ρ X Γ e1 r x) (h2 : Ev ρ' X Γ e2 s y) {b : Bs} {σ : L2.St} {I H : Hp} {fp : Nat → List Addr} (hs : Same I H) (k : Cn b I H σ Γ fp) {R : V → V → Hp → Prop}
    (q : ∀ v w I' H', Ext I H I' H' → r.is (vw ρ I' H' fp) v x → s.is (vw ρ' I' H' fp) w y → R v w H') : wE X e1 σ H fun v H1 => wE X e2 σ H1 fun w H2 => R v w H2 :=
  h1 b σ I H fp hs k _ fun v I1 H1 E1 z1 => h2 b σ I1 H1 fp E1.ih (k.up E1) _ fun w I2 H2 E2 z2 => q v w I2 H2 (E1.trans E2) (r.up (vw_up E2) z1) z2
/-- a two-place operation -/
theorem ev_bin {op : Operator} {R : R2} {s : Rep β} {u : Rep γ} {y : β} {z : γ} (ho : OpR X (binaryOp op) R) (h1 : Ev ρ X Γ e1 r x) (h2 : Ev ρ' X Γ e2 s y)
    (q : ∀ (v w : V) (I H : Hp) (fp : Nat → List Addr) (Q : VK), Same I H → r.is (vw ρ I H fp) v x → s.is (vw ρ' I H fp) w y → (∀ t I' H', Ext I H I' H' → u.is (vw ρ'' I' H' fp) t z → Q t H') → R v w H Q) : Ev ρ'' X Γ (.BinOp e1 op e2 pos) u z :=
  fun b σ I H fp hs k Q hq => PE.w (pe_op ho pe_w pe_w) (ev_two h1 h2 hs k fun v w I1 H1 E z1 z2 => q v w I1 H1 fp Q E.ih z1 z2 fun t I2 H2 E2 z3 => hq t I2 H2 (E.trans E2) z3)
theorem ev_binI {op : Operator} {g : Int → Int → Int} {C : Int → Int → Prop} {i j : Int} (ho : OpR X (binaryOp op) (rI C fun i j => .int (g i j))) (h1 : Ev true X Γ e1 rInt i) (h2 : Ev true X Γ e2 rInt j) (hc : C i j) : Ev true X Γ (.BinOp e1 op e2 pos) rInt (g i j) :=
  ev_bin ho h1 h2 fun v w I H fp Q s z1 z2 q => by
    cases z1; cases z2
    exact ⟨i, j, rfl, rfl, hc, q _ I H (Ext.refl s) rfl⟩
theorem ev_binI0 {op : Operator} {g : Int → Int → Int} {i j : Int} (ho : OpR X (binaryOp op) (rI0 fun i j => .int (g i j))) (h1 : Ev true X Γ e1 rInt i) (h2 : Ev true X Γ e2 rInt j) : Ev true X Γ (.BinOp e1 op e2 pos) rInt (g i j) :=
  ev_bin ho h1 h2 fun v w I H fp Q s z1 z2 q => by
    cases z1; cases z2
    exact ⟨i, j, rfl, rfl, q _ I H (Ext.refl s) rfl⟩
theorem ev_add {i j : Int} (h1 : Ev true X Γ e1 rInt i) (h2 : Ev true X Γ e2 rInt j) : Ev true X Γ (.BinOp e1 .Add e2 pos) rInt (i + j) := ev_binI0 op_add h1 h2
theorem ev_sub {i j : Int} (h1 : Ev true X Γ e1 rInt i) (h2 : Ev true X Γ e2 rInt j) : Ev true X Γ (.BinOp e1 .Sub e2 pos) rInt (i - j) := ev_binI0 op_sub h1 h2
theorem ev_mul {i j : Int} (h1 : Ev true X Γ e1 rInt i) (h2 : Ev true X Γ e2 rInt j) (hc : CMul i j) : Ev true X Γ (.BinOp e1 .Mult e2 pos) rInt (i * j) := ev_binI op_mul h1 h2 hc
theorem ev_mod {i j : Int} (h1 : Ev true X Γ e1 rInt i) (h2 : Ev true X Γ e2 rInt j) (hc : 0 < j) : Ev true X Γ (.BinOp e1 .Mod e2 pos) rInt (i % j) := ev_binI op_mod h1 h2 hc
theorem ev_div {i j : Int} (h1 : Ev true X Γ e1 rInt i) (h2 : Ev true X Γ e2 rInt j) (hc : CDiv i j) : Ev true X Γ (.BinOp e1 .FloorDiv e2 pos) rInt (i / j) := ev_binI op_fdiv h1 h2 hc
theorem ev_addN {i j : Nat} (h1 : Ev true X Γ e1 rNat i) (h2 : Ev true X Γ e2 rNat j) : Ev true X Γ (.BinOp e1 .Add e2 pos) rNat (i + j) := Ev.nat (by rw [Int.natCast_add]; exact ev_add (Ev.int h1) (Ev.int h2))

/-! ### lists, tuples, dicts -/
/-- an own list, read where it stands -/
theorem rl_of {I H : Hp} {v : V} {xs : List α} (h : (rLst r).is I v xs) (s : Same I H) : ∃ p vs, v = .ref p ∧ H p = some (.lst vs) ∧ Paired (r.is I) vs xs := by
  obtain ⟨p, vs, e1, e2, e3⟩ := h
  exact ⟨p, vs, e1, s _ _ e2, e3⟩
theorem ev_new {xs : List α} {op : Operator} {R : R2} {s : Rep β} {u : Rep γ} {y : β} {z : γ} (ho : OpR X (binaryOp op) R) (h1 : Ev ρ X Γ e1 s y) (h2 : Ev ρ' X Γ e2 u z)
    (q : ∀ (v w : V) (I H : Hp) (fp : Nat → List Addr) (Q : VK), Same I H → s.is (vw ρ I H fp) v y → u.is (vw ρ' I H fp) w z → Same (vw ρ I H fp) H → Same (vw ρ' I H fp) H → (∀ p vs, H p = none → Paired (r.is I) vs xs → Q (.ref p) (upd H p (.lst vs))) → R v w H Q) : EvN X Γ (.BinOp e1 op e2 pos) (oLst r) xs :=
  fun b σ I H fp hs k Q hq => PE.w (pe_op ho pe_w pe_w) (ev_two h1 h2 hs k fun v w I1 H1 E z1 z2 => q v w I1 H1 fp Q E.ih z1 z2 (vw_in E.ih) (vw_in E.ih) fun p vs hp hv => by
    refine hq _ I1 _ [p] (E.trans (Ext.own E.ih hp)) ⟨p, _, rfl, rfl, upd_same, hv⟩ fun a m => ?_
    obtain rfl : a = p := by simpa using m
    exact ⟨E.hh.free hp, E.ih.free hp, by rw [upd_same]; exact fun z => nomatch z⟩)
theorem ev_cat {xs ys : List α} (h1 : Ev true X Γ e1 (rLst r) xs) (h2 : Ev true X Γ e2 (rLst r) ys) (hl : xs.length + ys.length ≤ sizeLine) : EvN X Γ (.BinOp e1 .Add e2 pos) (oLst r) (xs ++ ys) :=
  ev_new op_cat h1 h2 fun v w I H fp Q s z1 z2 _ _ q => by
    obtain ⟨p, vs, rfl, a1, p1⟩ := rl_of z1 s
    obtain ⟨p', ws, rfl, a2, p2⟩ := rl_of z2 s
    exact ⟨p, p', vs, ws, rfl, rfl, a1, a2, by rw [Paired.length p1, Paired.length p2]; exact hl, fun q' hq' => q _ _ hq' (prd_append p1 p2)⟩
theorem rep_flat {δ : Type} (a : δ) : ∀ n : Nat, (List.replicate n [a]).flatten = List.replicate n a
  | 0 => rfl
  | n + 1 => by rw [List.replicate_succ, List.replicate_succ, List.flatten_cons, rep_flat a n]; rfl
theorem ev_rep {n : Nat} (h1 : Ev true X Γ e1 (rLst r) [x]) (h2 : Ev true X Γ e2 rNat n) (hl : n ≤ sizeLine) : EvN X Γ (.BinOp e1 .Mult e2 pos) (oLst r) (List.replicate n x) :=
  ev_new op_rep h1 h2 fun v w I H fp Q s z1 z2 _ _ q => by
    obtain ⟨p, vs, rfl, a1, p1⟩ := rl_of z1 s
    cases p1 with
    | cons r1 t =>
      cases t
      cases z2
      have hs : sizeLine < 2 ^ 63 := by rw [sizeLine_eq]; decide
      refine ⟨p, _, _, rfl, rfl, a1, by omega, by omega, by simp; exact hl, fun q' hq' => ?_⟩
      rw [Int.toNat_natCast, rep_flat]
      exact q _ _ hq' (prd_rep r1 n)
theorem ev_ixI {xs : List α} {j : Int} (h1 : Ev ρ X Γ e1 (rLst r) xs) (h2 : Ev true X Γ e2 rInt j) (hx : atI xs j = some x) (hs : PlainIx e2 := by exact fun _ _ => rfl) : Ev ρ X Γ (.Subscript e1 e2 pos) r x :=
  fun b σ I H fp hS k Q hq => PE.w (pe_ix ix_list pe_w pe_w hs) (ev_two h1 h2 hS k fun v w I1 H1 E z1 z2 => by
    obtain ⟨p, vs, rfl, a1, p1⟩ := rl_of z1 (vw_in E.ih)
    cases z2
    obtain ⟨u, hu, ru⟩ := prd_atI p1 hx
    exact ⟨p, vs, j, u, rfl, rfl, SqL.of a1, hu, hq u I1 H1 E ru⟩)
theorem ev_ix {xs : List α} {j : Nat} (h1 : Ev ρ X Γ e1 (rLst r) xs) (h2 : Ev true X Γ e2 rNat j) (hx : xs[j]? = some x) (hs : PlainIx e2 := by exact fun _ _ => rfl) : Ev ρ X Γ (.Subscript e1 e2 pos) r x :=
  ev_ixI h1 (Ev.int h2) (atI_nat hx) hs
/-- a list that the def owns: its items are published -/
theorem ev_ixO {xs : List α} {j : Nat} {n : Str} {pos2 : Pos} (i : Nat) (g : Γ[i]? = some (.own (oLst r) xs)) (h2 : Ev true X Γ e2 rNat j) (hx : xs[j]? = some x) (hN : X.N[i]? = some n := by rfl) (hv : Vis X.env.scope n := by first | exact Or.inl rfl | exact Or.inr (Or.inl rfl) | exact Or.inr (Or.inr rfl))
    (hs : PlainIx e2 := by exact fun _ _ => rfl) (hd : (n == ("__debug__" : Str)) = false := by decide) (hcd : (n == ("__classdict__" : Str)) = false := by decide) : Ev true X Γ (.Subscript (.Name n pos2) e2 pos) r x :=
  fun b σ I H fp hS k Q hq => PE.w (pe_ix ix_list (pv i hN hv hd hcd) pe_w hs) (by
    obtain ⟨v, e, ⟨p, vs, rfl, ef, a1, p1⟩, _⟩ := k.get_own g
    refine ⟨_, e, h2 b σ I H fp hS k _ fun w I1 H1 E z2 => ?_⟩
    cases z2
    obtain ⟨u, hu, ru⟩ := prd_get p1 hx
    exact ⟨p, vs, j, u, rfl, rfl, SqL.of (E.hh _ _ a1), atI_nat hu, hq u I1 H1 E (r.up E.ii ru)⟩)
theorem ev_ixT {f : Fld α} {s : Rep β} {z : β} {j : Nat} (h1 : Ev ρ X Γ e1 (rTup f) x) (h2 : Ev true X Γ e2 rNat j) (hx : AtF f j x s z) (hs : PlainIx e2 := by exact fun _ _ => rfl) : Ev ρ X Γ (.Subscript e1 e2 pos) s z :=
  fun b σ I H fp hS k Q hq => PE.w (pe_ix ix_tup pe_w pe_w hs) (ev_two h1 h2 hS k fun v w I1 H1 E z1 z2 => by
    obtain ⟨p, vs, rfl, a1, p1⟩ := z1
    cases z2
    obtain ⟨u, hu, ru⟩ := hx.get p1
    exact ⟨p, vs, j, u, rfl, rfl, SqT.of (vw_in E.ih _ _ a1), atI_nat hu, hq u I1 H1 E ru⟩)
theorem rPP_of {I H : Hp} {v : V} {k : Nat × Nat} (h : rPP.is I v k) (s : Same I H) : ∃ b, v = .ref b ∧ H b = some (.tup ((kP k).map kV)) := by
  obtain ⟨p, vs, rfl, a, v1, ws, rfl, h1, v2, rfl, h2⟩ := h
  cases h1; cases h2
  exact ⟨p, rfl, s _ _ a⟩
/-- d[k], d.get(k), k in d: keys that are pairs, keys that are ints -/
theorem ev_dT {t : List ((Nat × Nat) × α)} {key : Nat × Nat} (hu : X.A.units + 1 < cLine) (h1 : Ev ρ X Γ e1 (rTab r) t) (h2 : Ev true X Γ e2 rPP key) (hx : tget t key = some x) (hs : NoSl e2 := by exact fun _ _ => rfl) : Ev ρ X Γ (.Subscript e1 e2 pos) r x :=
  fun b σ I H fp hS k Q hq => PE.w (pe_dget hu pe_w pe_w hs) (ev_two h1 h2 hS k fun v w I1 H1 E z1 z2 => by
    obtain ⟨p, kvs, rfl, a1, p1⟩ := z1
    obtain ⟨q, rfl, a2⟩ := rPP_of z2 (vw_in E.ih)
    rcases p1.get kP_inj key with ⟨_, n⟩ | ⟨u, y, g1, g2, g3⟩
    · rw [n] at hx; cases hx
    · rw [g2] at hx; cases hx
      exact ⟨p, u, rfl, by have := DGet.t (vw_in E.ih _ _ a1) a2; rw [g1] at this; exact this, hq u I1 H1 E g3⟩)
theorem ev_dK {t : List (Nat × α)} {key : Nat} (hu : X.A.units + 1 < cLine) (h1 : Ev ρ X Γ e1 (rDic r) t) (h2 : Ev true X Γ e2 rNat key) (hx : tget t key = some x) (hs : NoSl e2 := by exact fun _ _ => rfl) : Ev ρ X Γ (.Subscript e1 e2 pos) r x :=
  fun b σ I H fp hS k Q hq => PE.w (pe_dget hu pe_w pe_w hs) (ev_two h1 h2 hS k fun v w I1 H1 E z1 z2 => by
    obtain ⟨p, kvs, rfl, a1, p1⟩ := z1
    cases z2
    rcases p1.get kI_inj key with ⟨_, n⟩ | ⟨u, y, g1, g2, g3⟩
    · rw [n] at hx; cases hx
    · rw [g2] at hx; cases hx
      exact ⟨p, u, rfl, by have := DGet.k (k := kI key) (vw_in E.ih _ _ a1); rw [g1] at this; exact this, hq u I1 H1 E g3⟩)
theorem ev_getT {t : List ((Nat × Nat) × α)} {key : Nat × Nat} {s : Rep β} {y : β} {apos : Pos} (hu : X.A.units + 1 < cLine) (h1 : Ev ρ X Γ e1 (rTab r) t) (h2 : Ev true X Γ e2 rPP key)
    (h0 : tget t key = none → ∀ I, s.is I .non y) (hy : ∀ x, tget t key = some x → ∀ I v, r.is I v x → s.is I v y) (m : M1 X e1 "get" apos e2 pos := by exact ⟨rfl, rfl, rfl, rfl⟩) : Ev ρ X Γ (.Call (.Attribute e1 "get" apos) [e2] [] pos) s y :=
  fun b σ I H fp hS k Q hq => PE.w (pe_dget1 hu pe_w pe_w m) (h1 b σ I H fp hS k _ fun v I1 H1 E1 z1 => by
    obtain ⟨p, kvs, rfl, a1, p1⟩ := z1
    refine ⟨p, rfl, .inr ⟨kvs, .inl (vw_in E1.ih _ _ a1)⟩, h2 b σ I1 H1 fp E1.ih (k.up E1) _ fun w I2 H2 E2 z2 => ?_⟩
    obtain ⟨q, rfl, a2⟩ := rPP_of z2 (vw_in E2.ih)
    have a1' := vw_up (ρ := ρ) (fp := fp) E2 _ _ a1
    rcases p1.get kP_inj key with ⟨n1, n⟩ | ⟨u, y', g1, g2, g3⟩
    · exact ⟨none, by have := DGet.t (vw_in E2.ih _ _ a1') a2; rw [n1] at this; exact this, hq _ I2 H2 (E1.trans E2) (h0 n _)⟩
    · exact ⟨some u, by have := DGet.t (vw_in E2.ih _ _ a1') a2; rw [g1] at this; exact this, hq u I2 H2 (E1.trans E2) (hy _ g2 _ _ (r.up (vw_up E2) g3))⟩)
theorem et_inT {t : List ((Nat × Nat) × α)} {key : Nat × Nat} (hu : X.A.units + 1 < cLine) (h2 : Ev true X Γ e2 rPP key) (h1 : Ev ρ X Γ e1 (rTab r) t) (hm : behindInMarks .In e1 = false := by rfl) : EvT X Γ (.Compare e2 [.In] [e1] pos) (tget t key).isSome :=
  fun b σ I H fp hS k Q hq => PT.w (pt_cmp (pc_din hu pe_w pe_w) hm) (ev_two h2 h1 hS k fun w v I1 H1 E z2 z1 => by
    obtain ⟨p, kvs, rfl, a1, p1⟩ := z1
    obtain ⟨q, rfl, a2⟩ := rPP_of z2 (vw_in E.ih)
    have := DGet.t (vw_in E.ih _ _ a1) a2
    refine ⟨p, _, rfl, this, _, rfl, ?_⟩
    rcases p1.get kP_inj key with ⟨n1, n⟩ | ⟨u, y', g1, g2, g3⟩
    · rw [n1]; rw [n] at hq; exact hq I1 H1 E
    · rw [g1]; rw [g2] at hq; exact hq I1 H1 E)
theorem et_ninT {t : List ((Nat × Nat) × α)} {key : Nat × Nat} (hu : X.A.units + 1 < cLine) (h2 : Ev true X Γ e2 rPP key) (h1 : Ev ρ X Γ e1 (rTab r) t) (hm : behindInMarks .NotIn e1 = false := by rfl) : EvT X Γ (.Compare e2 [.NotIn] [e1] pos) (!(tget t key).isSome) :=
  fun b σ I H fp hS k Q hq => PT.w (pt_cmp (pc_dnotin hu pe_w pe_w) hm) (ev_two h2 h1 hS k fun w v I1 H1 E z2 z1 => by
    obtain ⟨p, kvs, rfl, a1, p1⟩ := z1
    obtain ⟨q, rfl, a2⟩ := rPP_of z2 (vw_in E.ih)
    have := DGet.t (vw_in E.ih _ _ a1) a2
    refine ⟨p, _, rfl, this, _, rfl, ?_⟩
    rcases p1.get kP_inj key with ⟨n1, n⟩ | ⟨u, y', g1, g2, g3⟩
    · rw [n1]; rw [n] at hq; exact hq I1 H1 E
    · rw [g1]; rw [g2] at hq; exact hq I1 H1 E)
theorem et_inK {t : List (Nat × α)} {key : Nat} (hu : X.A.units + 1 < cLine) (h2 : Ev true X Γ e2 rNat key) (h1 : Ev ρ X Γ e1 (rDic r) t) (hm : behindInMarks .In e1 = false := by rfl) : EvT X Γ (.Compare e2 [.In] [e1] pos) (tget t key).isSome :=
  fun b σ I H fp hS k Q hq => PT.w (pt_cmp (pc_din hu pe_w pe_w) hm) (ev_two h2 h1 hS k fun w v I1 H1 E z2 z1 => by
    obtain ⟨p, kvs, rfl, a1, p1⟩ := z1
    cases z2
    have := DGet.k (k := kI key) (vw_in E.ih _ _ a1)
    refine ⟨p, _, rfl, this, _, rfl, ?_⟩
    rcases p1.get kI_inj key with ⟨n1, n⟩ | ⟨u, y', g1, g2, g3⟩
    · rw [n1]; rw [n] at hq; exact hq I1 H1 E
    · rw [g1]; rw [g2] at hq; exact hq I1 H1 E)
theorem et_ninK {t : List (Nat × α)} {key : Nat} (hu : X.A.units + 1 < cLine) (h2 : Ev true X Γ e2 rNat key) (h1 : Ev ρ X Γ e1 (rDic r) t) (hm : behindInMarks .NotIn e1 = false := by rfl) : EvT X Γ (.Compare e2 [.NotIn] [e1] pos) (!(tget t key).isSome) :=
  fun b σ I H fp hS k Q hq => PT.w (pt_cmp (pc_dnotin hu pe_w pe_w) hm) (ev_two h2 h1 hS k fun w v I1 H1 E z2 z1 => by
    obtain ⟨p, kvs, rfl, a1, p1⟩ := z1
    cases z2
    have := DGet.k (k := kI key) (vw_in E.ih _ _ a1)
    refine ⟨p, _, rfl, this, _, rfl, ?_⟩
    rcases p1.get kI_inj key with ⟨n1, n⟩ | ⟨u, y', g1, g2, g3⟩
    · rw [n1]; rw [n] at hq; exact hq I1 H1 E
    · rw [g1]; rw [g2] at hq; exact hq I1 H1 E)

/-! ### arguments, displays -/
theorem ef_nil1 : EvI X Γ [] r [] := fun b σ I H fp hS k Q hq => PA.w pa_nil (hq [] I H (Ext.refl hS) .nil)
theorem ef_one (h : Ev ρ X Γ e r x) (hs : starEach [e] X.env = (false, eval e X.env) :: starEach [] X.env := by rfl) : EvF ρ X Γ [e] (fOne r) x :=
  fun b σ I H fp hS k Q hq => PA.w (pa_cons pe_w pa_nil hs) (h b σ I H fp hS k _ fun v I1 H1 E z => hq [v] I1 H1 E ⟨v, rfl, z⟩)
theorem ef_cons {f : Fld β} {y : β} (h : Ev ρ X Γ e r x) (hr : EvF ρ X Γ es f y) (hs : starEach (e :: es) X.env = (false, eval e X.env) :: starEach es X.env := by rfl) : EvF ρ X Γ (e :: es) (fCons r f) (x, y) :=
  fun b σ I H fp hS k Q hq => PA.w (pa_cons pe_w pa_w hs) (h b σ I H fp hS k _ fun v I1 H1 E z => hr b σ I1 H1 fp E.ih (k.up E) _ fun vs I2 H2 E2 z2 => hq (v :: vs) I2 H2 (E.trans E2) ⟨v, vs, rfl, r.up (vw_up E2) z, z2⟩)
theorem ei_cons {xs : List α} (h : Ev true X Γ e r x) (hr : EvI X Γ es r xs) (hs : starEach (e :: es) X.env = (false, eval e X.env) :: starEach es X.env := by rfl) : EvI X Γ (e :: es) r (x :: xs) :=
  fun b σ I H fp hS k Q hq => PA.w (pa_cons pe_w pa_w hs) (h b σ I H fp hS k _ fun v I1 H1 E z => hr b σ I1 H1 fp E.ih (k.up E) _ fun vs I2 H2 E2 z2 => hq (v :: vs) I2 H2 (E.trans E2) (.cons (r.up E2.ii z) z2))
theorem ei_star {xs ys : List α} {p : Pos} (h : Ev true X Γ e (rLst r) xs) (hr : EvI X Γ es r ys) : EvI X Γ (.Starred e p :: es) r (xs ++ ys) :=
  fun b σ I H fp hS k Q hq => PA.w (StX.pa_star pe_w pa_w) (h b σ I H fp hS k _ fun v I1 H1 E z => by
    obtain ⟨q, vs, rfl, a1, p1⟩ := z
    exact ⟨q, vs, rfl, .inr (SqL.of (E.ih _ _ a1)), hr b σ I1 H1 fp E.ih (k.up E) _ fun ws I2 H2 E2 z2 => hq (vs ++ ws) I2 H2 (E.trans E2) (prd_append (Paired.mapP p1 fun _ _ z => r.up E2.ii z) z2)⟩)
theorem ev_tup {f : Fld α} {x1} (h : EvF ρ X Γ es f x) (hl : f.n ≤ 100 := by decide) : Ev ρ X Γ (.Tuple es x1 pos) (rTup f) x :=
  fun b σ I H fp hS k Q hq => PE.w (pe_tup pa_w) (h b σ I H fp hS k _ fun vs I1 H1 E z => ⟨by rw [f.len z]; exact Nat.le_trans hl (by decide), fun p hp => by
    have E2 : Ext I1 H1 (upd I1 p (.tup vs)) (upd H1 p (.tup vs)) := Ext.new E.ih hp
    refine hq _ _ _ (E.trans E2) ⟨p, vs, rfl, ?_, f.up (vw_up E2) z⟩
    have s1 : Same (upd I1 p (.tup vs)) (vw ρ (upd I1 p (.tup vs)) (upd H1 p (.tup vs)) fp) := vw_same ((k.up (E.trans E2)).prv)
    exact s1 _ _ upd_same⟩)
theorem ev_lst {xs : List α} (h : EvI X Γ es r xs) (hl : xs.length ≤ sizeLine) : EvN X Γ (.List es pos) (oLst r) xs :=
  fun b σ I H fp hS k Q hq => PE.w (pe_lst pa_w) (h b σ I H fp hS k _ fun vs I1 H1 E z => ⟨by rw [Paired.length z]; exact hl, fun p hp => by
    refine hq _ I1 _ [p] (E.trans (Ext.own E.ih hp)) ⟨p, vs, rfl, rfl, upd_same, z⟩ fun a m => ?_
    obtain rfl : a = p := by simpa using m
    exact ⟨E.hh.free hp, E.ih.free hp, by rw [upd_same]; exact fun z => nomatch z⟩⟩)
theorem ev_nilL : EvN X Γ (.List [] pos) (oLst r) [] := ev_lst ef_nil1 (Nat.zero_le _)
theorem ev_dicK : EvN X Γ (.Dict [] [] pos) (oDic r) [] :=
  fun b σ I H fp hS k Q hq => PE.w pe_dnewK (fun p hp => by
    refine hq _ I _ [p] (Ext.own hS hp) ⟨p, [], rfl, rfl, upd_same, .nil⟩ fun a m => ?_
    obtain rfl : a = p := by simpa using m
    exact ⟨hp, hS.free hp, by rw [upd_same]; exact fun z => nomatch z⟩)
theorem ev_dicT : EvN X Γ (.Dict [] [] pos) (oTab r) [] :=
  fun b σ I H fp hS k Q hq => PE.w pe_dnewT (fun p hp => by
    refine hq _ I _ [p] (Ext.own hS hp) ⟨p, [], rfl, rfl, upd_same, .nil⟩ fun a m => ?_
    obtain rfl : a = p := by simpa using m
    exact ⟨hp, hS.free hp, by rw [upd_same]; exact fun z => nomatch z⟩)
end
end T

/-! ## T3 -/
/-! The typed layer: tests, equality of data, built-ins, calls, slices. -/
namespace T
open PySem PySem.Spec PyProof.Rows L2
section
variable {α β γ : Type} {ρ ρ' ρ'' : Bool} {X : Cx} {Γ : List B} {e e1 e2 e3 c : Expr} {es : List Expr} {r : Rep α} {x : α} {pos : Pos}

/-! ### tests -/
theorem et_not {t : Bool} (h : EvT X Γ c t) : EvT X Γ (.UnaryOp .Not c pos) (!t) := fun b σ I H fp hS k Q hq => PT.w (pt_not pt_w) (h b σ I H fp hS k _ fun I1 H1 E => hq I1 H1 E)
theorem ew_and1 {t : Bool} (h : EvT X Γ c t) : EvW X Γ (.BoolOp .And [c] pos) t := fun b σ I H fp hS k Q hq => PW.w (pw_and1 pt_w) (h b σ I H fp hS k _ hq)
theorem ew_or1 {t : Bool} (h : EvT X Γ c t) : EvW X Γ (.BoolOp .Or [c] pos) t := fun b σ I H fp hS k Q hq => PW.w (pw_or1 pt_w) (h b σ I H fp hS k _ hq)
theorem ew_and {t u : Bool} {d : Expr} {rest : List Expr} (h : EvT X Γ c t) (h2 : t = true → EvW X Γ (.BoolOp .And (d :: rest) pos) u) : EvW X Γ (.BoolOp .And (c :: d :: rest) pos) (t && u) := fun b σ I H fp hS k Q hq =>
  PW.w (pw_and pt_w pw_w) (h b σ I H fp hS k _ fun I1 H1 E => by
    cases t with
    | true => exact iteT (h2 rfl b σ I1 H1 fp E.ih (k.up E) Q fun I2 H2 E2 => hq I2 H2 (E.trans E2))
    | false => exact iteF (hq I1 H1 E))
theorem ew_or {t u : Bool} {d : Expr} {rest : List Expr} (h : EvT X Γ c t) (h2 : t = false → EvW X Γ (.BoolOp .Or (d :: rest) pos) u) : EvW X Γ (.BoolOp .Or (c :: d :: rest) pos) (t || u) := fun b σ I H fp hS k Q hq =>
  PW.w (pw_or pt_w pw_w) (h b σ I H fp hS k _ fun I1 H1 E => by
    cases t with
    | true => exact iteT (hq I1 H1 E)
    | false => exact iteF (h2 rfl b σ I1 H1 fp E.ih (k.up E) Q fun I2 H2 E2 => hq I2 H2 (E.trans E2)))
theorem EvW.t {t : Bool} (h : EvW X Γ c t) : EvT X Γ c t := fun b σ I H fp hS k Q hq => (h b σ I H fp hS k Q hq).wT
/-- the value of a test, the test of a value -/
theorem et_val {t : Bool} (h : Ev true X Γ e rBl t) (he : ∀ whole, isTrue e X.env whole = (do let v ← whole; standAt e.pos; holding [v] (truthy v)) := by intro _; rfl) : EvT X Γ e t := fun b σ I H fp hS k Q hq =>
  PT.w (pt_val pe_w he) (h b σ I H fp hS k _ fun v I1 H1 E z => ⟨t, z, hq I1 H1 E⟩)
/-- truth of a list -/
theorem et_list {xs : List α} (h : Ev ρ X Γ e (rLst r) xs) (he : ∀ whole, isTrue e X.env whole = (do let v ← whole; standAt e.pos; holding [v] (truthy v)) := by intro _; rfl) : EvT X Γ e (!xs.isEmpty) := fun b σ I H fp hS k Q hq =>
  PT.w (pt_truth pe_w he) (h b σ I H fp hS k _ fun v I1 H1 E z => by
    obtain ⟨p, vs, rfl, a1, p1⟩ := z
    refine ⟨!vs.isEmpty, .inl ⟨vs, SqL.of (vw_in E.ih _ _ a1), rfl⟩, ?_⟩
    have e : vs.isEmpty = xs.isEmpty := by cases p1 <;> rfl
    rw [e]; exact hq I1 H1 E)
theorem et_cmp {op : CmpOp} {R : R2} {s : Rep β} {y : β} {t : Bool} (ho : OpR X (compareOp op) R) (h1 : Ev ρ X Γ e1 r x) (h2 : Ev ρ' X Γ e2 s y) (hm : behindInMarks op e2 = false)
    (q : ∀ (v w : V) (I H : Hp) (fp : Nat → List Addr) (Q : VK), Same I H → Same (vw ρ I H fp) H → Same (vw ρ' I H fp) H → r.is (vw ρ I H fp) v x → s.is (vw ρ' I H fp) w y → Q (.bl t) H → R v w H Q) : EvT X Γ (.Compare e1 [op] [e2] pos) t :=
  fun b σ I H fp hs k Q hq => PT.w (pt_cmpR ho pe_w pe_w hm) (ev_two h1 h2 hs k fun v w I1 H1 E z1 z2 => q v w I1 H1 fp _ E.ih (vw_in E.ih) (vw_in E.ih) z1 z2 ⟨t, rfl, hq I1 H1 E⟩)
theorem ev_cmp {op : CmpOp} {R : R2} {s : Rep β} {y : β} {t : Bool} (ho : OpR X (compareOp op) R) (h1 : Ev ρ X Γ e1 r x) (h2 : Ev ρ' X Γ e2 s y) (hm : behindInMarks op e2 = false)
    (q : ∀ (v w : V) (I H : Hp) (fp : Nat → List Addr) (Q : VK), Same I H → Same (vw ρ I H fp) H → Same (vw ρ' I H fp) H → r.is (vw ρ I H fp) v x → s.is (vw ρ' I H fp) w y → Q (.bl t) H → R v w H Q) : Ev ρ'' X Γ (.Compare e1 [op] [e2] pos) rBl t :=
  fun b σ I H fp hs k Q hq => PE.w (pe_cmpR ho pe_w pe_w hm) (ev_two h1 h2 hs k fun v w I1 H1 E z1 z2 => q v w I1 H1 fp _ E.ih (vw_in E.ih) (vw_in E.ih) z1 z2 (hq _ I1 H1 E rfl))
theorem et_lt {i j : Int} (h1 : Ev true X Γ e1 rInt i) (h2 : Ev true X Γ e2 rInt j) : EvT X Γ (.Compare e1 [.Lt] [e2] pos) (decide (i < j)) := et_cmp op_lt h1 h2 (nomark _) fun v w I H fp Q _ _ _ z1 z2 q => by cases z1; cases z2; exact ⟨i, j, rfl, rfl, q⟩
theorem et_le {i j : Int} (h1 : Ev true X Γ e1 rInt i) (h2 : Ev true X Γ e2 rInt j) : EvT X Γ (.Compare e1 [.LtE] [e2] pos) (decide (i ≤ j)) := et_cmp op_le h1 h2 (nomark _) fun v w I H fp Q _ _ _ z1 z2 q => by cases z1; cases z2; exact ⟨i, j, rfl, rfl, q⟩
theorem et_gt {i j : Int} (h1 : Ev true X Γ e1 rInt i) (h2 : Ev true X Γ e2 rInt j) : EvT X Γ (.Compare e1 [.Gt] [e2] pos) (decide (j < i)) := et_cmp op_gt h1 h2 (nomark _) fun v w I H fp Q _ _ _ z1 z2 q => by cases z1; cases z2; exact ⟨i, j, rfl, rfl, q⟩
theorem et_ge {i j : Int} (h1 : Ev true X Γ e1 rInt i) (h2 : Ev true X Γ e2 rInt j) : EvT X Γ (.Compare e1 [.GtE] [e2] pos) (decide (j ≤ i)) := et_cmp op_ge h1 h2 (nomark _) fun v w I H fp Q _ _ _ z1 z2 q => by cases z1; cases z2; exact ⟨i, j, rfl, rfl, q⟩
theorem et_ltN {i j : Nat} (h1 : Ev true X Γ e1 rNat i) (h2 : Ev true X Γ e2 rNat j) : EvT X Γ (.Compare e1 [.Lt] [e2] pos) (decide (i < j)) := EvT.is (et_lt (Ev.int h1) (Ev.int h2)) (by simp)
/-- flat things: == and != -/
structure Sc (r : Rep α) (r' : Rep β) (f : α → β → Bool) : Prop where
  ok : ∀ {I J : Hp} {v w : V} {x : α} {y : β}, r.is I v x → r'.is J w y → scal v w = true ∧ decide (v = w) = f x y
theorem sc_int : Sc rInt rInt (fun i j => decide (i = j)) := ⟨fun h1 h2 => by cases h1; cases h2; exact ⟨rfl, by simp⟩⟩
theorem sc_nat : Sc rNat rNat (fun i j => decide (i = j)) := ⟨fun h1 h2 => by cases h1; cases h2; exact ⟨rfl, by simp; omega⟩⟩
theorem sc_opt : Sc rOpt rOpt (fun i j => decide (i = j)) := ⟨fun {I J v w x y} h1 h2 => by
  cases h1; cases h2
  cases x <;> cases y <;> simp [scal, vO]⟩
theorem et_eq {s : Rep β} {y : β} {f : α → β → Bool} (sc : Sc r s f) (h1 : Ev true X Γ e1 r x) (h2 : Ev true X Γ e2 s y) : EvT X Γ (.Compare e1 [.Eq] [e2] pos) (f x y) := et_cmp op_eq h1 h2 (nomark _) fun v w I H fp Q _ _ _ z1 z2 q => by
  obtain ⟨a, d⟩ := sc.ok z1 z2
  exact ⟨a, by rw [d]; exact q⟩
theorem et_ne {s : Rep β} {y : β} {f : α → β → Bool} (sc : Sc r s f) (h1 : Ev true X Γ e1 r x) (h2 : Ev true X Γ e2 s y) : EvT X Γ (.Compare e1 [.NotEq] [e2] pos) (!f x y) := et_cmp op_ne h1 h2 (nomark _) fun v w I H fp Q _ _ _ z1 z2 q => by
  obtain ⟨a, d⟩ := sc.ok z1 z2
  exact ⟨a, by rw [d]; exact q⟩
theorem ev_eq {s : Rep β} {y : β} {f : α → β → Bool} (sc : Sc r s f) (h1 : Ev true X Γ e1 r x) (h2 : Ev true X Γ e2 s y) : Ev true X Γ (.Compare e1 [.Eq] [e2] pos) rBl (f x y) := ev_cmp op_eq h1 h2 (nomark _) fun v w I H fp Q _ _ _ z1 z2 q => by
  obtain ⟨a, d⟩ := sc.ok z1 z2
  exact ⟨a, by rw [d]; exact q⟩
/-- is None, is not None: any value -/
def vNone (r : Rep α) (f : α → Bool) : Prop := ∀ {I : Hp} {v : V} {x : α}, r.is I v x → decide (v = .non) = f x
theorem vn_opt : vNone rOpt Option.isNone := fun {I v x} h => by cases h; cases x <;> rfl
theorem vn_opN : vNone rOpN Option.isNone := fun {I v x} h => by cases h; cases x <;> rfl
theorem et_isN {f : α → Bool} {j : Nat} {p2 : Pos} (hn : vNone r f) (h1 : Ev true X Γ e1 r x) : EvT X Γ (.Compare e1 [.Is] [.Constant .none j p2] pos) (f x) := fun b σ I H fp hS k Q hq =>
  PT.w (pt_cmp (pc_isN pe_w)) (h1 b σ I H fp hS k _ fun v I1 H1 E z => ⟨_, rfl, by rw [hn z]; exact hq I1 H1 E⟩)
theorem et_notN {f : α → Bool} {j : Nat} {p2 : Pos} (hn : vNone r f) (h1 : Ev true X Γ e1 r x) : EvT X Γ (.Compare e1 [.IsNot] [.Constant .none j p2] pos) (!f x) := fun b σ I H fp hS k Q hq =>
  PT.w (pt_cmp (pc_notN pe_w)) (h1 b σ I H fp hS k _ fun v I1 H1 E z => ⟨_, rfl, by rw [hn z]; exact hq I1 H1 E⟩)
theorem ev_isN {f : α → Bool} {j : Nat} {p2 : Pos} (hn : vNone r f) (h1 : Ev true X Γ e1 r x) : Ev true X Γ (.Compare e1 [.Is] [.Constant .none j p2] pos) rBl (f x) := fun b σ I H fp hS k Q hq =>
  PE.w (pe_cmp (pc_isN pe_w)) (h1 b σ I H fp hS k _ fun v I1 H1 E z => by rw [hn z]; exact hq _ I1 H1 E rfl)
/-- is not True -/
theorem et_notTrue {t : Bool} {j : Nat} {p2 : Pos} (h1 : Ev true X Γ e1 rBl t) : EvT X Γ (.Compare e1 [.IsNot] [.Constant (.bool true) j p2] pos) (!t) :=
  et_cmp op_notBl h1 (ev_bl (i := true)) (nomark _) fun v w I H fp Q _ _ _ z1 z2 q => by
    cases z1; cases z2
    refine ⟨t, true, rfl, rfl, ?_⟩
    cases t <;> exact q
/-- 0 <= a < b -/
theorem et_chain {i j l : Int} (h1 : Ev true X Γ e1 rInt i) (h2 : Ev true X Γ e2 rInt j) (h3 : Ev true X Γ e3 rInt l) (hm : lastMarks [.LtE, .Lt] [e2, e3] = false := by with_unfolding_all rfl) : EvT X Γ (.Compare e1 [.LtE, .Lt] [e2, e3] pos) (decide (i ≤ j) && decide (j < l)) := fun b σ I H fp hS k Q hq =>
  PT.w (pt_chain op_le op_lt pe_w pe_w pe_w hm) (h1 b σ I H fp hS k _ fun v I1 H1 E1 z1 => h2 b σ I1 H1 fp E1.ih (k.up E1) _ fun w I2 H2 E2 z2 => by
    cases z1; cases z2
    refine ⟨i, j, rfl, rfl, _, rfl, ?_⟩
    by_cases c : i ≤ j
    · rw [decide_eq_true c] at hq ⊢
      exact iteT (h3 b σ I2 H2 fp E2.ih ((k.up E1).up E2) _ fun u I3 H3 E3 z3 => by
        cases z3
        exact ⟨j, l, rfl, rfl, _, rfl, hq I3 H3 ((E1.trans E2).trans E3)⟩)
    · rw [decide_eq_false c] at hq ⊢
      exact iteF ⟨_, rfl, hq I2 H2 (E1.trans E2)⟩)

/-! ### equality of data -/
structure Dq (r : Rep α) (d : Nat) : Type where
  dat : α → PyData
  ok : ∀ {K : PySem.W.Frag} {I : Hp} {v : V} {x : α}, r.is I v x → Dp K I v (dat x)
  lay : ∀ x, (dat x).canLay0 = true
  dep : ∀ x, (dat x).depth ≤ d
  inj : ∀ x y, PyData.eqv (dat x) (dat y) = true → x = y
structure Df (f : Fld α) (d : Nat) : Type where
  dat : α → List PyData
  ok : ∀ {K : PySem.W.Frag} {I : Hp} {vs : List V} {x : α}, f.is I vs x → DpAll K I vs (dat x)
  lay : ∀ x, PyData.canLayAll0 (dat x) = true
  dep : ∀ x, PyData.depthAll (dat x) ≤ d
  inj : ∀ x y, PyData.eqvAll (dat x) (dat y) = true → x = y
def dInt : Dq rInt 0 := ⟨.int, fun h => by cases h; exact .int _, fun _ => rfl, fun _ => Nat.le_refl _, fun x y h => by simpa [PyData.eqv] using h⟩
def dNat : Dq rNat 0 := ⟨fun n => .int (n : Int), fun h => by cases h; exact .int _, fun _ => rfl, fun _ => Nat.le_refl _, fun x y h => by
  have : (x : Int) = (y : Int) := by simpa [PyData.eqv] using h
  omega⟩
def datO : Option Int → PyData
  | none => .none
  | some i => .int i
def datN : Option Nat → PyData
  | none => .none
  | some i => .int (i : Int)
def dOpt : Dq rOpt 0 := ⟨datO, fun {K I v x} h => by cases h; cases x; exact .non; exact .int _, fun x => by cases x <;> rfl, fun x => by cases x <;> exact Nat.le_refl _, fun x y h => by
  cases x <;> cases y <;> simp_all [datO, PyData.eqv]⟩
def dOpN : Dq rOpN 0 := ⟨datN, fun {K I v x} h => by cases h; cases x; exact .non; exact .int _, fun x => by cases x <;> rfl, fun x => by cases x <;> exact Nat.le_refl _, fun x y h => by
  cases x <;> cases y <;> simp_all [datN, PyData.eqv] <;> omega⟩
def dOne {r : Rep α} {d : Nat} (q : Dq r d) : Df (fOne r) d := ⟨fun x => [q.dat x], fun h => by obtain ⟨v, rfl, h⟩ := h; exact .cons (q.ok h) .nil, fun x => by simp [PyData.canLayAll0, q.lay], fun x => by simp [PyData.depthAll, q.dep], fun x y h => q.inj x y (by simpa [PyData.eqvAll] using h)⟩
def dCons {r : Rep α} {f : Fld β} {d : Nat} (q : Dq r d) (p : Df f d) : Df (fCons r f) d := ⟨fun x => q.dat x.1 :: p.dat x.2, fun h => by obtain ⟨v, ws, rfl, h1, h2⟩ := h; exact .cons (q.ok h1) (p.ok h2), fun x => by simp [PyData.canLayAll0, q.lay, p.lay],
  fun x => by have h1 := q.dep x.1; have h2 := p.dep x.2; simp [PyData.depthAll]; omega, fun x y h => by
    simp only [PyData.eqvAll, Bool.and_eq_true] at h
    exact Prod.ext (q.inj _ _ h.1) (p.inj _ _ h.2)⟩
def dTup {f : Fld α} {d : Nat} (p : Df f d) : Dq (rTup f) (d + 1) := ⟨fun x => .tuple (p.dat x), fun h => by obtain ⟨a, vs, rfl, h1, h2⟩ := h; exact .tup (SqT.of h1) (p.ok h2), fun x => p.lay x, fun x => by have := p.dep x; simp [PyData.depth]; omega, fun x y h => p.inj x y (by simpa [PyData.eqv] using h)⟩
theorem dAll {r : Rep α} {d : Nat} (q : Dq r d) {K : PySem.W.Frag} {I : Hp} : ∀ {vs : List V} {xs : List α}, Paired (r.is I) vs xs → DpAll K I vs (xs.map q.dat)
  | _, _, .nil => .nil
  | _, _, .cons h t => .cons (q.ok h) (dAll q t)
theorem dAll_lay {r : Rep α} {d : Nat} (q : Dq r d) : ∀ xs : List α, PyData.canLayAll0 (xs.map q.dat) = true
  | [] => rfl
  | x :: xs => by simp [PyData.canLayAll0, q.lay, dAll_lay q xs]
theorem dAll_dep {r : Rep α} {d : Nat} (q : Dq r d) : ∀ xs : List α, PyData.depthAll (xs.map q.dat) ≤ d
  | [] => Nat.zero_le _
  | x :: xs => by have h1 := q.dep x; have h2 := dAll_dep q xs; simp [PyData.depthAll]; omega
theorem dAll_inj {r : Rep α} {d : Nat} (q : Dq r d) : ∀ xs ys : List α, PyData.eqvAll (xs.map q.dat) (ys.map q.dat) = true → xs = ys
  | [], [], _ => rfl
  | [], _ :: _, h => by simp [PyData.eqvAll] at h
  | _ :: _, [], h => by simp [PyData.eqvAll] at h
  | x :: xs, y :: ys, h => by
    simp only [List.map_cons, PyData.eqvAll, Bool.and_eq_true] at h
    rw [q.inj _ _ h.1, dAll_inj q xs ys h.2]
def dLst {r : Rep α} {d : Nat} (q : Dq r d) : Dq (rLst r) (d + 1) := ⟨fun xs => .list (xs.map q.dat), fun h => by obtain ⟨a, vs, rfl, h1, h2⟩ := h; exact .lst (SqL.of h1) (dAll q h2), fun xs => dAll_lay q xs, fun xs => by have := dAll_dep q xs; simp [PyData.depth]; omega,
  fun x y h => dAll_inj q x y (by simpa [PyData.eqv] using h)⟩
theorem Dq.shaped {r : Rep α} {d : Nat} (q : Dq r d) (hd : d ≤ 60) (x : α) : SeqAt.shaped (q.dat x) = true := by
  have h1 := q.lay x
  have h2 := q.dep x
  unfold SeqAt.shaped
  rw [h1, Bool.true_and]
  exact decide_eq_true (by omega)
theorem Dq.eqv {r : Rep α} {d : Nat} (q : Dq r d) [DecidableEq α] (x y : α) : PyData.eqv (q.dat x) (q.dat y) = decide (x = y) := by
  by_cases h : x = y
  · subst h
    rw [decide_eq_true rfl]
    exact SeqAt.eqv_refl _ (q.lay x)
  · rw [decide_eq_false h]
    cases e : PyData.eqv (q.dat x) (q.dat y) with
    | false => rfl
    | true => exact absurd (q.inj x y e) h
theorem et_eqD [DecidableEq α] {y : α} {d : Nat} (q : Dq r d) (hu : X.A.units + 64 < cLine) (h1 : Ev ρ X Γ e1 r x) (h2 : Ev ρ' X Γ e2 r y) (hd : d ≤ 60 := by decide) : EvT X Γ (.Compare e1 [.Eq] [e2] pos) (decide (x = y)) := et_cmp (op_eqD hu) h1 h2 (nomark _) fun v w I H fp Q _ s1 s2 z1 z2 k =>
  ⟨_, _, q.ok (r.up s1 z1), q.ok (r.up s2 z2), q.shaped hd x, q.shaped hd y, by rw [q.eqv]; exact k⟩
theorem et_neD [DecidableEq α] {y : α} {d : Nat} (q : Dq r d) (hu : X.A.units + 64 < cLine) (h1 : Ev ρ X Γ e1 r x) (h2 : Ev ρ' X Γ e2 r y) (hd : d ≤ 60 := by decide) : EvT X Γ (.Compare e1 [.NotEq] [e2] pos) (!decide (x = y)) := et_cmp (op_neD hu) h1 h2 (nomark _) fun v w I H fp Q _ s1 s2 z1 z2 k =>
  ⟨_, _, q.ok (r.up s1 z1), q.ok (r.up s2 z2), q.shaped hd x, q.shaped hd y, by rw [q.eqv]; exact k⟩
theorem ev_eqD [DecidableEq α] {y : α} {d : Nat} (q : Dq r d) (hu : X.A.units + 64 < cLine) (h1 : Ev ρ X Γ e1 r x) (h2 : Ev ρ' X Γ e2 r y) (hd : d ≤ 60 := by decide) : Ev true X Γ (.Compare e1 [.Eq] [e2] pos) rBl (decide (x = y)) := ev_cmp (op_eqD hu) h1 h2 (nomark _) fun v w I H fp Q _ s1 s2 z1 z2 k =>
  ⟨_, _, q.ok (r.up s1 z1), q.ok (r.up s2 z2), q.shaped hd x, q.shaped hd y, by rw [q.eqv]; exact k⟩
theorem any_eqv [DecidableEq α] {d : Nat} (q : Dq r d) (x : α) : ∀ xs : List α, ((xs.map q.dat).any fun z => PyData.eqv z (q.dat x)) = decide (x ∈ xs)
  | [] => by simp
  | y :: ys => by
    rw [List.map_cons, List.any_cons, any_eqv q x ys, q.eqv]
    by_cases h : y = x
    · simp [h]
    · have h2 : ¬ x = y := fun z => h z.symm
      simp [h, h2]
theorem ev_inD [DecidableEq α] {xs : List α} {d : Nat} (q : Dq r d) (hu : X.A.units + 65 < cLine) (h1 : Ev ρ X Γ e1 r x) (h2 : Ev ρ' X Γ e2 (rLst r) xs) (hm : behindInMarks .In e2 = false := by rfl) (hd : d ≤ 50 := by decide) : Ev true X Γ (.Compare e1 [.In] [e2] pos) rBl (decide (x ∈ xs)) := ev_cmp (op_inD hu) h1 h2 hm fun v w I H fp Q _ s1 s2 z1 z2 k =>
  ⟨_, xs.map q.dat, q.ok (r.up s1 z1), (dLst q).ok ((rLst r).up s2 z2), q.shaped (by omega) x, (dLst q).shaped (by omega) xs, by rw [any_eqv]; exact k⟩
theorem et_inD [DecidableEq α] {xs : List α} {d : Nat} (q : Dq r d) (hu : X.A.units + 65 < cLine) (h1 : Ev ρ X Γ e1 r x) (h2 : Ev ρ' X Γ e2 (rLst r) xs) (hm : behindInMarks .In e2 = false := by rfl) (hd : d ≤ 50 := by decide) : EvT X Γ (.Compare e1 [.In] [e2] pos) (decide (x ∈ xs)) := et_cmp (op_inD hu) h1 h2 hm fun v w I H fp Q _ s1 s2 z1 z2 k =>
  ⟨_, xs.map q.dat, q.ok (r.up s1 z1), (dLst q).ok ((rLst r).up s2 z2), q.shaped (by omega) x, (dLst q).shaped (by omega) xs, by rw [any_eqv]; exact k⟩

/-! ### built-ins -/
theorem ev_blt {id : String} {R : List V → Hp → VK → Prop} {n : Str} {p : Pos} {f : Fld α} {s : Rep β} {y : β} (hc : CallR X (.builtin id) R) (hg : Gl X n) (hm : X.mg n = none) (hv : bootBuiltins n = some (.builtin id)) (ha : EvF ρ X Γ (e :: es) f x)
    (q : ∀ (vs : List V) (I H : Hp) (fp : Nat → List Addr) (Q : VK), Same I H → Same (vw ρ I H fp) H → f.is (vw ρ I H fp) vs x → (∀ v I' H', Ext I H I' H' → s.is (vw ρ' I' H' fp) v y → Q v H') → R vs H Q) (hn : n ≠ "__name__" := by decide) (hdb : (n == ("__debug__" : Str)) = false := by decide)
    (he : starEach (e :: es) X.env = (false, eval e X.env) :: starEach es X.env := by rfl) (hp : (backTo pos (starEach es X.env)).any (·.1) = false := by rfl) : Ev ρ' X Γ (.Call (.Name n p) (e :: es) [] pos) s y :=
  fun b σ I H fp hS k Q hq => PE.w (pe_callB hc hg hm hv pa_w hn hdb he hp) (ha b σ I H fp hS k _ fun vs I1 H1 E z => q vs I1 H1 fp Q E.ih (vw_in E.ih) z fun v I2 H2 E2 z2 => hq v I2 H2 (E.trans E2) z2)
theorem ev_bltN {id : String} {R : List V → Hp → VK → Prop} {n : Str} {p : Pos} {f : Fld α} {s : Rep β} {ys : List β} (hc : CallR X (.builtin id) R) (hg : Gl X n) (hm : X.mg n = none) (hv : bootBuiltins n = some (.builtin id)) (ha : EvF ρ X Γ (e :: es) f x)
    (q : ∀ (vs : List V) (I H : Hp) (fp : Nat → List Addr) (Q : VK), Same I H → Same (vw ρ I H fp) H → f.is (vw ρ I H fp) vs x → (∀ p ws, H p = none → Paired (s.is I) ws ys → Q (.ref p) (upd H p (.lst ws))) → R vs H Q) (hn : n ≠ "__name__" := by decide) (hdb : (n == ("__debug__" : Str)) = false := by decide)
    (he : starEach (e :: es) X.env = (false, eval e X.env) :: starEach es X.env := by rfl) (hp : (backTo pos (starEach es X.env)).any (·.1) = false := by rfl) : EvN X Γ (.Call (.Name n p) (e :: es) [] pos) (oLst s) ys :=
  fun b σ I H fp hS k Q hq => PE.w (pe_callB hc hg hm hv pa_w hn hdb he hp) (ha b σ I H fp hS k _ fun vs I1 H1 E z => q vs I1 H1 fp Q E.ih (vw_in E.ih) z fun p ws hp hv => by
    refine hq _ I1 _ [p] (E.trans (Ext.own E.ih hp)) ⟨p, _, rfl, rfl, upd_same, hv⟩ fun a m => ?_
    obtain rfl : a = p := by simpa using m
    exact ⟨E.hh.free hp, E.ih.free hp, by rw [upd_same]; exact fun z => nomatch z⟩)
theorem ev_ty {id : String} {R : List V → Hp → VK → Prop} {n : Str} {p : Pos} {f : Fld α} {s : Rep β} {y : β} (hc : CallR X (.type id) R) (hg : Gl X n) (hm : X.mg n = none) (hv : bootBuiltins n = some (.type id)) (ha : EvF ρ X Γ (e :: es) f x)
    (q : ∀ (vs : List V) (I H : Hp) (fp : Nat → List Addr) (Q : VK), Same I H → Same (vw ρ I H fp) H → f.is (vw ρ I H fp) vs x → (∀ v I' H', Ext I H I' H' → s.is (vw ρ' I' H' fp) v y → Q v H') → R vs H Q) (hn : n ≠ "__name__" := by decide) (hdb : (n == ("__debug__" : Str)) = false := by decide)
    (he : starEach (e :: es) X.env = (false, eval e X.env) :: starEach es X.env := by rfl) (hp : (backTo pos (starEach es X.env)).any (·.1) = false := by rfl) : Ev ρ' X Γ (.Call (.Name n p) (e :: es) [] pos) s y :=
  fun b σ I H fp hS k Q hq => PE.w (pe_callTy hc hg hm hv pa_w hn hdb he hp) (ha b σ I H fp hS k _ fun vs I1 H1 E z => q vs I1 H1 fp Q E.ih (vw_in E.ih) z fun v I2 H2 E2 z2 => hq v I2 H2 (E.trans E2) z2)
theorem ev_tyN {id : String} {R : List V → Hp → VK → Prop} {n : Str} {p : Pos} {f : Fld α} {s : Rep β} {ys : List β} (hc : CallR X (.type id) R) (hg : Gl X n) (hm : X.mg n = none) (hv : bootBuiltins n = some (.type id)) (ha : EvF ρ X Γ (e :: es) f x)
    (q : ∀ (vs : List V) (I H : Hp) (fp : Nat → List Addr) (Q : VK), Same I H → Same (vw ρ I H fp) H → f.is (vw ρ I H fp) vs x → (∀ p ws, H p = none → Paired (s.is I) ws ys → Q (.ref p) (upd H p (.lst ws))) → R vs H Q) (hn : n ≠ "__name__" := by decide) (hdb : (n == ("__debug__" : Str)) = false := by decide)
    (he : starEach (e :: es) X.env = (false, eval e X.env) :: starEach es X.env := by rfl) (hp : (backTo pos (starEach es X.env)).any (·.1) = false := by rfl) : EvN X Γ (.Call (.Name n p) (e :: es) [] pos) (oLst s) ys :=
  fun b σ I H fp hS k Q hq => PE.w (pe_callTy hc hg hm hv pa_w hn hdb he hp) (ha b σ I H fp hS k _ fun vs I1 H1 E z => q vs I1 H1 fp Q E.ih (vw_in E.ih) z fun p ws hp hv => by
    refine hq _ I1 _ [p] (E.trans (Ext.own E.ih hp)) ⟨p, _, rfl, rfl, upd_same, hv⟩ fun a m => ?_
    obtain rfl : a = p := by simpa using m
    exact ⟨E.hh.free hp, E.ih.free hp, by rw [upd_same]; exact fun z => nomatch z⟩)
section
variable {n : Str} {p : Pos}
theorem ev_len {xs : List α} (hm : X.mg "len" = none) (h : Ev ρ X Γ e (rLst r) xs) (hg : Gl X "len" := by rfl) (hs : starEach [e] X.env = (false, eval e X.env) :: starEach [] X.env := by rfl) (hp : (backTo pos (starEach [] X.env)).any (·.1) = false := by rfl) : Ev true X Γ (.Call (.Name "len" p) [e] [] pos) rNat xs.length :=
  ev_blt call_len_seq hg hm PySem.boot_len (ef_one h hs) (fun vs I H fp Q s s2 z q => by
    obtain ⟨v, rfl, a, ws, rfl, h1, h2⟩ := z
    exact ⟨a, ws, rfl, .inl (SqL.of (s2 _ _ h1)), by rw [Paired.length h2]; exact q _ I H (Ext.refl s) rfl⟩) (by decide) (by decide) hs hp
theorem ev_toint {i : Int} (hm : X.mg "int" = none) (h : Ev true X Γ e rInt i) (hg : Gl X "int" := by rfl) (hs : starEach [e] X.env = (false, eval e X.env) :: starEach [] X.env := by rfl) (hp : (backTo pos (starEach [] X.env)).any (·.1) = false := by rfl) : Ev true X Γ (.Call (.Name "int" p) [e] [] pos) rInt i :=
  ev_ty call_int1 hg hm PyProof.Rows.boot_int (ef_one h hs) (fun vs I H fp Q s s2 z q => by
    obtain ⟨v, rfl, h1⟩ := z
    cases h1
    exact .inl ⟨i, rfl, q _ I H (Ext.refl s) rfl⟩) (by decide) (by decide) hs hp
theorem ev_abs {i : Int} (hm : X.mg "abs" = none) (h : Ev true X Γ e rInt i) (hg : Gl X "abs" := by rfl) (hs : starEach [e] X.env = (false, eval e X.env) :: starEach [] X.env := by rfl) (hp : (backTo pos (starEach [] X.env)).any (·.1) = false := by rfl) : Ev true X Γ (.Call (.Name "abs" p) [e] [] pos) rInt (if i < 0 then -i else i) :=
  ev_blt call_abs hg hm (by decide +kernel) (ef_one h hs) (fun vs I H fp Q s s2 z q => by
    obtain ⟨v, rfl, h1⟩ := z
    cases h1
    exact ⟨i, rfl, q _ I H (Ext.refl s) rfl⟩) (by decide) (by decide) hs hp
theorem ev_min2 {i j : Int} (hc : X.calm = true) (hm : X.mg "min" = none) (h1 : Ev true X Γ e1 rInt i) (h2 : Ev true X Γ e2 rInt j) (hg : Gl X "min" := by rfl) (hs : starEach [e1, e2] X.env = (false, eval e1 X.env) :: starEach [e2] X.env := by rfl) (hs2 : starEach [e2] X.env = (false, eval e2 X.env) :: starEach [] X.env := by rfl) (hp : (backTo pos (starEach [e2] X.env)).any (·.1) = false := by rfl) : Ev true X Γ (.Call (.Name "min" p) [e1, e2] [] pos) rInt (if j < i then j else i) :=
  ev_blt (call_min2 hc) hg hm (by decide +kernel) (ef_cons h1 (ef_one h2 hs2) hs) (fun vs I H fp Q s s2 z q => by
    obtain ⟨v, ws, rfl, h1, w, rfl, h2⟩ := z
    cases h1; cases h2
    exact ⟨i, j, rfl, q _ I H (Ext.refl s) rfl⟩) (by decide) (by decide) hs hp
theorem ev_max2 {i j : Int} (hc : X.calm = true) (hm : X.mg "max" = none) (h1 : Ev true X Γ e1 rInt i) (h2 : Ev true X Γ e2 rInt j) (hg : Gl X "max" := by rfl) (hs : starEach [e1, e2] X.env = (false, eval e1 X.env) :: starEach [e2] X.env := by rfl) (hs2 : starEach [e2] X.env = (false, eval e2 X.env) :: starEach [] X.env := by rfl) (hp : (backTo pos (starEach [e2] X.env)).any (·.1) = false := by rfl) : Ev true X Γ (.Call (.Name "max" p) [e1, e2] [] pos) rInt (if j > i then j else i) :=
  ev_blt (call_max2 hc) hg hm (by decide +kernel) (ef_cons h1 (ef_one h2 hs2) hs) (fun vs I H fp Q s s2 z q => by
    obtain ⟨v, ws, rfl, h1, w, rfl, h2⟩ := z
    cases h1; cases h2
    exact ⟨i, j, rfl, q _ I H (Ext.refl s) rfl⟩) (by decide) (by decide) hs hp
theorem vals_ints {I : Hp} : ∀ {vs : List V} {xs : List Int}, Paired (rInt.is I) vs xs → vs = xs.map V.int
  | _, _, .nil => rfl
  | _, _, .cons h t => by cases h; rw [vals_ints t, List.map_cons]
theorem vals_bls {I : Hp} : ∀ {vs : List V} {xs : List Bool}, Paired (rBl.is I) vs xs → vs = xs.map V.bl
  | _, _, .nil => rfl
  | _, _, .cons h t => by cases h; rw [vals_bls t, List.map_cons]
theorem ev_minL {xs : List Int} {m : Int} (hc : X.calm = true) (hm : X.mg "min" = none) (h : Ev ρ X Γ e (rLst rInt) xs) (hne : 0 < xs.length) (hmin : ∀ k, k ∈ xs → (∀ y, y ∈ xs → k ≤ y) → k = m) (hg : Gl X "min" := by rfl) (hs : starEach [e] X.env = (false, eval e X.env) :: starEach [] X.env := by rfl) (hp : (backTo pos (starEach [] X.env)).any (·.1) = false := by rfl) : Ev true X Γ (.Call (.Name "min" p) [e] [] pos) rInt m :=
  ev_blt (cr_min hc) hg hm (by decide +kernel) (ef_one h hs) (fun vs I H fp Q s s2 z q => by
    obtain ⟨v, rfl, a, ws, rfl, h1, h2⟩ := z
    rw [vals_ints h2] at h1
    exact ⟨a, xs, rfl, SqL.of (s2 _ _ h1), hne, fun k hk hle => by rw [hmin k hk hle]; exact q _ I H (Ext.refl s) rfl⟩) (by decide) (by decide) hs hp
theorem ev_any {xs : List Bool} (hc : X.calm = true) (hm : X.mg "any" = none) (h : Ev ρ X Γ e (rLst rBl) xs) (hg : Gl X "any" := by rfl) (hs : starEach [e] X.env = (false, eval e X.env) :: starEach [] X.env := by rfl) (hp : (backTo pos (starEach [] X.env)).any (·.1) = false := by rfl) : Ev true X Γ (.Call (.Name "any" p) [e] [] pos) rBl (xs.any id) :=
  ev_blt (cr_any hc) hg hm (by decide +kernel) (ef_one h hs) (fun vs I H fp Q s s2 z q => by
    obtain ⟨v, rfl, a, ws, rfl, h1, h2⟩ := z
    rw [vals_bls h2] at h1
    exact ⟨a, xs, rfl, SqL.of (s2 _ _ h1), q _ I H (Ext.refl s) rfl⟩) (by decide) (by decide) hs hp
/-- list(xs): a copy -/
theorem ev_listL {xs : List α} (hm : X.mg "list" = none) (h : Ev true X Γ e (rLst r) xs) (hg : Gl X "list" := by rfl) (hs : starEach [e] X.env = (false, eval e X.env) :: starEach [] X.env := by rfl) (hp : (backTo pos (starEach [] X.env)).any (·.1) = false := by rfl) : EvN X Γ (.Call (.Name "list" p) [e] [] pos) (oLst r) xs :=
  ev_tyN call_list_of hg hm (by decide +kernel) (ef_one h hs) (fun vs I H fp Q s s2 z q => by
    obtain ⟨v, rfl, a, ws, rfl, h1, h2⟩ := z
    exact ⟨a, ws, rfl, .inl (SqL.of (s2 _ _ h1)), fun l hl => q l ws hl h2⟩) (by decide) (by decide) hs hp
end

/-! ### slices -/
theorem cut_take {xs : List V} (k : Nat) : cutV xs none (some (k : Int)) = xs.take k := by
  unfold cutV
  rw [HT.sIx_none, HT.sIx_nat, Nat.sub_zero, List.drop_zero]
  by_cases h : k ≤ xs.length
  · rw [Nat.min_eq_left h]
  · rw [Nat.min_eq_right (by omega), List.take_of_length_le (Nat.le_refl _), List.take_of_length_le (by omega)]
theorem cut_drop {xs : List V} (k : Nat) : cutV xs (some (k : Int)) none = xs.drop k := by
  unfold cutV
  rw [HT.sIx_none, HT.sIx_nat]
  by_cases h : k ≤ xs.length
  · rw [Nat.min_eq_left h, List.take_of_length_le (by rw [List.length_drop]; omega)]
  · rw [Nat.min_eq_right (by omega), Nat.sub_self, List.take_zero, List.drop_eq_nil_of_le (by omega)]
theorem cut_init {xs : List V} : cutV xs none (some (-1)) = xs.dropLast := by
  unfold cutV
  rw [HT.sIx_none, List.drop_zero, Nat.sub_zero, List.dropLast_eq_take]
  congr 1
  show (if (-1 : Int) < 0 then (-1 + (xs.length : Int)).toNat else min (-1 : Int).toNat xs.length) = xs.length - 1
  rw [if_pos (by decide)]
  omega
/-- a slice of a public list -/
theorem ev_take {xs : List α} {n : Nat} {p2 : Pos} (h1 : Ev true X Γ e (rLst r) xs) (h2 : Ev true X Γ e2 rNat n) : EvN X Γ (.Subscript e (.Slice none (some e2) none p2) pos) (oLst r) (xs.take n) :=
  fun b σ I H fp hS k Q hq => PE.w (pe_slice sl_list pe_w po_none (po_some pe_w)) (h1 b σ I H fp hS k _ fun v I1 H1 E z => by
    obtain ⟨p, vs, rfl, a1, p1⟩ := z
    refine h2 b σ I1 H1 fp E.ih (k.up E) _ fun w I2 H2 E2 z2 => ?_
    cases z2
    refine ⟨_, rfl, p, vs, rfl, SqL.of (E2.hh _ _ (E.ih _ _ a1)), fun q hq' => ?_⟩
    rw [cut_take]
    refine hq _ I2 _ [q] ((E.trans E2).trans (Ext.own E2.ih hq')) ⟨q, _, rfl, rfl, upd_same, prd_take n (Paired.mapP p1 fun _ _ z => r.up E2.ii z)⟩ fun a m => ?_
    obtain rfl : a = q := by simpa using m
    exact ⟨(E.trans E2).hh.free hq', E2.ih.free hq', by rw [upd_same]; exact fun z => nomatch z⟩)
theorem ev_drop {xs : List α} {n : Nat} {p2 : Pos} (h1 : Ev true X Γ e (rLst r) xs) (h2 : Ev true X Γ e2 rNat n) : EvN X Γ (.Subscript e (.Slice (some e2) none none p2) pos) (oLst r) (xs.drop n) :=
  fun b σ I H fp hS k Q hq => PE.w (pe_slice sl_list pe_w (po_some pe_w) po_none) (h1 b σ I H fp hS k _ fun v I1 H1 E z => by
    obtain ⟨p, vs, rfl, a1, p1⟩ := z
    refine h2 b σ I1 H1 fp E.ih (k.up E) _ fun w I2 H2 E2 z2 => ?_
    cases z2
    refine ⟨_, rfl, p, vs, rfl, SqL.of (E2.hh _ _ (E.ih _ _ a1)), fun q hq' => ?_⟩
    rw [cut_drop]
    refine hq _ I2 _ [q] ((E.trans E2).trans (Ext.own E2.ih hq')) ⟨q, _, rfl, rfl, upd_same, prd_drop n (Paired.mapP p1 fun _ _ z => r.up E2.ii z)⟩ fun a m => ?_
    obtain rfl : a = q := by simpa using m
    exact ⟨(E.trans E2).hh.free hq', E2.ih.free hq', by rw [upd_same]; exact fun z => nomatch z⟩)
theorem ev_minus {j : Nat} {i : Int} {p1 : Pos} : Ev true X Γ (.UnaryOp .USub (.Constant (.int i) j p1) pos) rInt (-i) := fun b σ I H fp hS k Q hq => PE.w (pe_un un_neg pe_int) ⟨i, rfl, hq _ I H (Ext.refl hS) rfl⟩
theorem ev_init {xs : List α} {j : Nat} {p1 p2 p3 : Pos} (h1 : Ev true X Γ e (rLst r) xs) : EvN X Γ (.Subscript e (.Slice none (some (.UnaryOp .USub (.Constant (.int 1) j p1) p2)) none p3) pos) (oLst r) xs.dropLast :=
  fun b σ I H fp hS k Q hq => PE.w (pe_slice sl_list pe_w po_none (po_some (pe_un un_neg pe_int))) (h1 b σ I H fp hS k _ fun v I1 H1 E z => by
    obtain ⟨p, vs, rfl, a1, p1⟩ := z
    refine ⟨1, rfl, _, rfl, p, vs, rfl, SqL.of (E.ih _ _ a1), fun q hq' => ?_⟩
    rw [cut_init]
    refine hq _ I1 _ [q] (E.trans (Ext.own E.ih hq')) ⟨q, _, rfl, rfl, upd_same, ?_⟩ fun a m => ?_
    · rw [List.dropLast_eq_take, List.dropLast_eq_take, Paired.length p1]
      exact prd_take _ p1
    · obtain rfl : a = q := by simpa using m
      exact ⟨E.hh.free hq', E.ih.free hq', by rw [upd_same]; exact fun z => nomatch z⟩)
theorem ev_rev {xs : List α} {j : Nat} {p1 p2 p3 : Pos} (h1 : Ev true X Γ e (rLst r) xs) : EvN X Γ (.Subscript e (.Slice none none (some (.UnaryOp .USub (.Constant (.int 1) j p1) p2)) p3) pos) (oLst r) xs.reverse :=
  fun b σ I H fp hS k Q hq => PE.w (pe_revL pe_w) (h1 b σ I H fp hS k _ fun v I1 H1 E z => by
    obtain ⟨p, vs, rfl, a1, p1⟩ := z
    refine ⟨p, vs, rfl, SqL.of (E.ih _ _ a1), fun q hq' => ?_⟩
    refine hq _ I1 _ [q] (E.trans (Ext.own E.ih hq')) ⟨q, _, rfl, rfl, upd_same, prd_rev p1⟩ fun a m => ?_
    obtain rfl : a = q := by simpa using m
    exact ⟨E.hh.free hq', E.ih.free hq', by rw [upd_same]; exact fun z => nomatch z⟩)
/-- t[:2] of a longer tuple -/
theorem ev_two2 {s : Rep β} {f : Fld γ} {y : β} {z : γ} {j : Nat} {p1 p2 : Pos} (h1 : Ev ρ X Γ e (rTup (fCons r (fCons s f))) (x, y, z)) (hf : 1 ≤ f.n := by decide) : Ev ρ X Γ (.Subscript e (.Slice none (some (.Constant (.int 2) j p1)) none p2) pos) (r2 r s) (x, y) :=
  fun b σ I H fp hS k Q hq => PE.w (pe_slice sl_tup pe_w po_none (po_some pe_int)) (h1 b σ I H fp hS k _ fun v I1 H1 E w => by
    obtain ⟨p, vs, rfl, a1, v1, ws, rfl, z1, v2, us, rfl, z2, z3⟩ := w
    have hl := f.len z3
    refine ⟨_, rfl, p, _, rfl, SqT.of (vw_in E.ih _ _ a1), ?_, fun q hq' => ?_⟩
    · intro c
      have c2 := c.2
      rw [show (2 : Int) = ((2 : Nat) : Int) from rfl, HT.sIx_nat] at c2
      simp only [List.length_cons] at c2
      omega
    · rw [show (2 : Int) = ((2 : Nat) : Int) from rfl, cut_take]
      have E2 : Ext I1 H1 (upd I1 q (.tup [v1, v2])) (upd H1 q (.tup [v1, v2])) := Ext.new E.ih hq'
      have s1 : Same (upd I1 q (.tup [v1, v2])) (vw ρ (upd I1 q (.tup [v1, v2])) (upd H1 q (.tup [v1, v2])) fp) := vw_same ((k.up (E.trans E2)).prv)
      exact hq _ _ _ (E.trans E2) ⟨q, _, rfl, s1 _ _ upd_same, v1, _, rfl, r.up (vw_up E2) z1, v2, rfl, s.up (vw_up E2) z2⟩)

/-! ### calls of defs -/
/-- a def's promise over plain data: the arguments by f, the precondition, what it gives by s -/
def spF {δ : Type} (f : Fld α) (s : Rep δ) (pre : α → Prop) (post : α → δ → Prop) : Sp := fun vs H Q _ => ∃ (x : α) (I : Hp), Same I H ∧ f.is I vs x ∧ pre x ∧ ∀ (u : V) (I' H' : Hp) (y : δ), Ext I H I' H' → s.is I' u y → post x y → Q u H'
/-- a def that may be called by its name -/
structure Cal (P : Program) (w : World) (K : PySem.W.Frag) (mg : Str → Option Value) (base : Heap) (n : Str) (k : Nat) (ps : List Str) (sp : Sp) : Prop where
  ex : ∃ (f : Addr) (fd : FuncData), FnOk P w K mg base CX0 k f fd ps sp ∧ mg n = some (.ref f) ∧ PySem.W.keepIn K (.ref f) = true ∧ Binds K fd ps []
theorem vw_call {I H J H' : Hp} {fp : Nat → List Addr} (hp : ∀ i a, a ∈ fp i → I a = none ∧ H a ≠ none) (s : Same I H) (E : Ext (vw ρ I H fp) H J H') : ∃ I', Ext I H I' H' ∧ Same J (vw ρ I' H' fp) := by
  cases ρ with
  | true => exact ⟨J, E, Same.refl _⟩
  | false =>
    have hv : ∀ a, (∃ i, a ∈ fp i) → vw false I H fp a = H a := fun a ⟨i, m⟩ => vw_mem m
    have hw : ∀ a, (¬ ∃ i, a ∈ fp i) → vw false I H fp a = I a := fun a n => vw_not fun i m => n ⟨i, m⟩
    refine ⟨open Classical in fun a => if (∃ i, a ∈ fp i) then none else J a, ⟨fun a o e => ?_, E.hh, fun a o e => ?_, fun a ha n => ?_⟩, fun a o e => ?_⟩
    · have n : ¬ ∃ i, a ∈ fp i := fun ⟨i, m⟩ => by rw [(hp i a m).1] at e; cases e
      rw [if_neg n]
      exact E.ii _ _ (by rw [hw a n]; exact e)
    · split at e
      · cases e
      · exact E.ih _ _ e
    · by_cases q : ∃ i, a ∈ fp i
      · exact if_pos q
      · rw [if_neg q]; exact E.pr a ha (by rw [hw a q]; exact n)
    · by_cases q : ∃ i, a ∈ fp i
      · obtain ⟨i, m⟩ := q; rw [vw_mem m]; exact E.ih _ _ e
      · rw [vw_not fun i m => q ⟨i, m⟩, if_neg q]; exact e
theorem ev_call {n : Str} {k0 : Nat} {ps : List Str} {f : Fld α} {s : Rep β} {pre : α → Prop} {post : α → β → Prop} {p : Pos} (F : Cal X.prog X.w X.K X.mg X.base n k0 ps (spF f s pre post)) (hr : Room k0 X.A) (ha : EvF ρ X Γ (e :: es) f x) (hx : pre x) (hg : Gl X n := by rfl) (hdb : (n == ("__debug__" : Str)) = false := by decide)
    (he : starEach (e :: es) X.env = (false, eval e X.env) :: starEach es X.env := by rfl) (hp : (backTo pos (starEach es X.env)).any (·.1) = false := by rfl) : EvP ρ X Γ (.Call (.Name n p) (e :: es) [] pos) s (post x) := by
  obtain ⟨fa, fd, F, hm, hk, hb⟩ := F.ex
  exact fun b σ I H fp hS k Q hq => PE.w (pe_call F hr hg hm hk hb .nil pass0 pa_w hdb he hp) (ha b σ I H fp hS k _ fun vs I1 H1 E z => by
    refine ⟨x, vw ρ I1 H1 fp, vw_in E.ih, by rw [List.append_nil]; exact z, hx, fun u J H' y E2 z2 hp => ?_⟩
    obtain ⟨I2, E3, s3⟩ := vw_call (k.up E).prv E.ih E2
    exact hq u I2 H' y (E.trans E3) (s.up s3 z2) hp)
theorem ev_callE {n : Str} {k0 : Nat} {ps : List Str} {f : Fld α} {s : Rep β} {pre : α → Prop} {g : α → β} {p : Pos} (F : Cal X.prog X.w X.K X.mg X.base n k0 ps (spF f s pre (fun x y => y = g x))) (hr : Room k0 X.A) (ha : EvF ρ X Γ (e :: es) f x) (hx : pre x) (hg : Gl X n := by rfl) (hdb : (n == ("__debug__" : Str)) = false := by decide)
    (he : starEach (e :: es) X.env = (false, eval e X.env) :: starEach es X.env := by rfl) (hp : (backTo pos (starEach es X.env)).any (·.1) = false := by rfl) : Ev ρ X Γ (.Call (.Name n p) (e :: es) [] pos) s (g x) := EvP.ev (ev_call F hr ha hx hg hdb he hp)
end
end T

/-! ## T4 -/
/-! The typed layer: targets, statements, loops, comprehensions. -/
namespace T
open PySem PySem.Spec PyProof.Rows L2

/-! ### states, ends -/
def Sg (b : Bs) (Γ : List B) : L2.St → Hp → Prop := fun σ H => ∃ (I : Hp) (fp : Nat → List Addr), Ok b I H ∧ Cn b I H σ Γ fp
def To (R : L2.St → Hp → Prop) (b : Bs) (Γ : List B) : Prop := ∀ σ H, Sg b Γ σ H → R σ H
def Run (b : Bs) (X : Cx) (sts : List Stmt) (D : Ends) (Γ : List B) : Prop := ∀ σ H, Sg b Γ σ H → wSs X sts D σ H
/-- what a return asks -/
def Rt {α : Type} (b : Bs) (D : Ends) (Γ : List B) (r : Rep α) (x : α) : Prop := ∀ (σ : L2.St) (I H : Hp) (fp : Nat → List Addr) (v : V), Ok b I H → Cn b I H σ Γ fp → r.is I v x → D.rt v H
abbrev _root_.L2.Ends.sq (D : Ends) (X : Cx) (rest : List Stmt) : Ends := { D with nx := wSs X rest D }
/-- a later start of the same def -/
structure BsLe (b b1 : Bs) : Prop where
  h0 : b1.H0 = b.H0
  w : b1.W = b.W
  ii : Same b.I0 b1.I0
  pr : ∀ a, b.H0 a ≠ none → b.I0 a = none → b1.I0 a = none
theorem BsLe.refl (b : Bs) : BsLe b b := ⟨rfl, rfl, Same.refl _, fun _ _ z => z⟩
theorem BsLe.trans {b c d : Bs} (h : BsLe b c) (k : BsLe c d) : BsLe b d := ⟨k.h0.trans h.h0, k.w.trans h.w, h.ii.trans k.ii, fun a z n => k.pr a (by rw [h.h0]; exact z) (h.pr a z n)⟩
section
variable {b b1 : Bs} {I H : Hp} {σ : L2.St} {Γ Δ : List B} {fp : Nat → List Addr}
theorem BsLe.ok (l : BsLe b b1) (k : Ok b1 I H) : Ok b I H :=
  ⟨l.ii.trans k.i0, by rw [← l.h0, ← l.w]; exact k.h0, k.ih, fun a z n => k.pr a (by rw [l.h0]; exact z) (l.pr a z n), by rw [← l.h0]; exact k.al⟩
theorem BsLe.cn (l : BsLe b b1) (c : Cn b1 I H σ Γ fp) : Cn b I H σ Γ fp where
  len := c.len
  at_ := fun i s q => by
    have z := c.at_ i s q
    cases s with
    | un => trivial
    | eq v => exact z
    | pub r x => exact z
    | own w x => obtain ⟨v, e1, e2, e3⟩ := z; exact ⟨v, e1, e2, by rw [← l.h0]; exact e3⟩
    | slf v w x => obtain ⟨e1, e2, e3⟩ := z; exact ⟨e1, e2, by rw [← l.h0, ← l.w]; exact e3⟩
    | fact p => exact z
    | gho v w x => obtain ⟨e2, e3⟩ := z; exact ⟨e2, by rw [← l.h0, ← l.w]; exact e3⟩
    | gpb v r x => exact z
    | rd v w x => exact z
  dis := c.dis
  prv := c.prv
  nt := c.nt
theorem BsLe.cn' (l : BsLe b b1) (c : Cn b I H σ Γ fp) : Cn b1 I H σ Γ fp where
  len := c.len
  at_ := fun i s q => by
    have z := c.at_ i s q
    cases s with
    | un => trivial
    | eq v => exact z
    | pub r x => exact z
    | own w x => obtain ⟨v, e1, e2, e3⟩ := z; exact ⟨v, e1, e2, by rw [l.h0]; exact e3⟩
    | slf v w x => obtain ⟨e1, e2, e3⟩ := z; exact ⟨e1, e2, by rw [l.h0, l.w]; exact e3⟩
    | fact p => exact z
    | gho v w x => obtain ⟨e2, e3⟩ := z; exact ⟨e2, by rw [l.h0, l.w]; exact e3⟩
    | gpb v r x => exact z
    | rd v w x => exact z
  dis := c.dis
  prv := c.prv
  nt := c.nt
theorem BsLe.sg (l : BsLe b b1) (h : Sg b1 Γ σ H) : Sg b Γ σ H := by
  obtain ⟨I, fp, k, c⟩ := h
  exact ⟨I, fp, l.ok k, l.cn c⟩
/-- the start of a loop: what is published now stays -/
def Bs.at_ (b : Bs) (I : Hp) : Bs := { b with I0 := I }
theorem Bs.le_at (k : Ok b I H) : BsLe b (b.at_ I) := ⟨rfl, rfl, k.i0, fun a z n => k.pr a z n⟩
theorem Bs.ok_at {J G : Hp} (k : Ok b I H) (k2 : Ok b J G) (s : Same I J) : Ok (b.at_ I) J G :=
  ⟨s, k2.h0, k2.ih, (fun a z n => by
    by_cases q : b.I0 a = none
    · exact k2.pr a z q
    · cases e : b.I0 a with
      | none => exact absurd e q
      | some o =>
        have n : I a = none := n
        rw [k.i0 _ _ e] at n
        cases n), k2.al⟩
theorem Sg.le (h : Sg b Γ σ H) (l : Le Γ Δ) : Sg b Δ σ H := by
  obtain ⟨I, fp, k, c⟩ := h
  exact ⟨I, fp, k, c.le l⟩
theorem Rt.base {α : Type} {D : Ends} {r : Rep α} {x : α} (h : Rt b D Γ r x) (l : BsLe b b1) : Rt b1 D Γ r x := fun σ I H fp v k c z => h σ I H fp v (l.ok k) (l.cn c) z
end

/-! ### targets -/
section
variable {α β γ : Type} {ρ ρ' ρ'' : Bool} {b : Bs} {X : Cx} {Γ Γ' Γ1 Γ2 Δ : List B} {e e1 e2 e3 c tg : Expr} {es tgs : List Expr} {r : Rep α} {x : α} {pos : Pos} {is is' : List Nat} {D : Ends} {rest body : List Stmt}
def Tg (X : Cx) (Γ : List B) (tg : Expr) (is : List Nat) (r : Rep α) (x : α) (Γ' : List B) : Prop := ∀ (b : Bs) (σ : L2.St) (I H : Hp) (fp : Nat → List Addr) (v : V), Same I H → Cn b I H σ Γ fp → r.is I v x →
  ∀ Q : L2.St → Hp → Prop, (∀ σ' fp', Cn b I H σ' Γ' fp' → (∀ j, j ∉ is → σ'[j]? = σ[j]?) → σ'.length = σ.length → (∀ j a, a ∈ fp' j → a ∈ fp j) → Q σ' H) → wG X tg v σ H Q
def Tgs (X : Cx) (Γ : List B) (tgs : List Expr) (is : List Nat) (f : Fld α) (x : α) (Γ' : List B) : Prop := ∀ (b : Bs) (σ : L2.St) (I H : Hp) (fp : Nat → List Addr) (vs : List V), Same I H → Cn b I H σ Γ fp → f.is I vs x →
  ∀ Q : L2.St → Hp → Prop, (∀ σ' fp', Cn b I H σ' Γ' fp' → (∀ j, j ∉ is → σ'[j]? = σ[j]?) → σ'.length = σ.length → (∀ j a, a ∈ fp' j → a ∈ fp j) → Q σ' H) → wGs X tgs vs σ H Q
theorem tg_name {n : Str} (i : Nat) (hN : X.N.Nodup) (hi : X.N[i]? = some n := by rfl) (hx : Loc X.env.scope n := by first | exact Or.inl rfl | exact Or.inr rfl) (hf : X.fn n = true ∨ X.env.scope.names.lookup n = some .local := by first | exact .inl rfl | exact .inr rfl) :
    Tg X Γ (.Name n pos) [i] r x (Γ.set i (.pub r x)) := fun b σ I H fp v s k z Q q =>
  PG.w (pg_name hN hi hx hf) (q _ _ (k.put i z) (fun j hj => List.getElem?_set_ne (fun z => hj (by simp [z]))) List.length_set fun j a m => by
    split at m
    · simp at m
    · exact m)
theorem tgs_one (h : Tg X Γ tg is r x Γ') (hs : (assignEach [tg] X.env).map (·.2) = assign tg X.env :: (assignEach [] X.env).map (·.2) := by rfl) : Tgs X Γ [tg] is (fOne r) x Γ' := fun b σ I H fp vs s k z Q q => by
  obtain ⟨v, rfl, z⟩ := z
  exact PGs.w (pgs_cons pg_w pgs_nil hs) ⟨v, [], rfl, h b σ I H fp v s k z _ fun σ' fp' c e l w => ⟨rfl, q σ' fp' c e l w⟩⟩
theorem tgs_cons {f : Fld β} {y : β} (h : Tg X Γ tg is r x Γ1) (h2 : Tgs X Γ1 tgs is' f y Γ2) (hs : (assignEach (tg :: tgs) X.env).map (·.2) = assign tg X.env :: (assignEach tgs X.env).map (·.2) := by rfl) : Tgs X Γ (tg :: tgs) (is ++ is') (fCons r f) (x, y) Γ2 := fun b σ I H fp vs s k z Q q => by
  obtain ⟨v, ws, rfl, z1, z2⟩ := z
  exact PGs.w (pgs_cons pg_w pgs_w hs) ⟨v, ws, rfl, h b σ I H fp v s k z1 _ fun σ1 fp1 c1 e1 l1 w1 => h2 b σ1 I H fp1 ws s c1 z2 _ fun σ2 fp2 c2 e2 l2 w2 =>
    q σ2 fp2 c2 (fun j hj => (e2 j fun m => hj (List.mem_append_right _ m)).trans (e1 j fun m => hj (List.mem_append_left _ m))) (l2.trans l1) fun j a m => w1 j a (w2 j a m)⟩
theorem tg_tup {f : Fld α} {k2 : Nat} (hc : X.calm = true) (h : Tgs X Γ tgs is f x Γ') (hn : (assignEach tgs X.env).length = f.n := by rfl) (hst : (assignEach tgs X.env).findIdx? (·.1) = none := by rfl) : Tg X Γ (.Tuple tgs k2 pos) is (rTup f) x Γ' := fun b σ I H fp v s k z Q q => by
  obtain ⟨p, vs, rfl, a1, z⟩ := z
  exact PG.w (pg_tup hc pgs_w hn hst) ⟨p, vs, rfl, SqT.of (s _ _ a1), f.len z, h b σ I H fp vs s k z Q q⟩

/-! ### statements -/
theorem run_nil (h : To D.nx b Γ) : Run b X [] D Γ := fun σ H g => PSs.w pss_nil (h σ H g)
theorem run_end (h : Run b X rest D Γ) : Run b X [] (D.sq X rest) Γ := run_nil h
theorem run_last {R : L2.St → Hp → Prop} {rt : VK} {bk ct : L2.St → Hp → Prop} (h : To R b Γ) : Run b X [] ⟨R, rt, bk, ct⟩ Γ := run_nil h
theorem run_le (l : Le Γ Δ) (h : Run b X rest D Δ) : Run b X rest D Γ := fun σ H g => h σ H (g.le l)
theorem To.le {R : L2.St → Hp → Prop} (l : Le Γ Δ) (h : To R b Δ) : To R b Γ := fun σ H g => h σ H (g.le l)
theorem run_of {st : Stmt} (h : ∀ σ I H fp, Ok b I H → Cn b I H σ Γ fp → wS X st (D.sq X rest) σ H) : Run b X (st :: rest) D Γ := fun σ H g => by
  obtain ⟨I, fp, k, c⟩ := g
  exact PSs.w (pss_cons ps_w pss_w) (h σ I H fp k c)
theorem run_fact {p : Prop} (i : Nat) (g : Γ[i]? = some (.fact p)) (h : p → Run b X rest D Γ) : Run b X rest D Γ := fun σ H q => by
  obtain ⟨I, fp, k, c⟩ := q
  exact h (c.at_ i _ g) σ H ⟨I, fp, k, c⟩
theorem run_asgP {n : Str} {p : Pos} {P : α → Prop} (i : Nat) (hN : X.N.Nodup) (h : EvP true X Γ e r P) (k : ∀ x, P x → Run b X rest D (Γ.set i (.pub r x))) (hi : X.N[i]? = some n := by rfl) (hx : Loc X.env.scope n := by first | exact Or.inl rfl | exact Or.inr rfl) (hs : swapsWith e (some (.Name n p)) pos.line X.env = pure false := by rfl)
    (hf : X.fn n = true ∨ X.env.scope.names.lookup n = some .local := by first | exact .inl rfl | exact .inr rfl) : Run b X (.Assign [.Name n p] e pos :: rest) D Γ :=
  run_of fun σ I H fp o c => PS.w (ps_set hN hi hx pe_w hs hf) (h b σ I H fp o.ih c _ fun v I' H' y E z p => k y p _ _ ⟨I', _, o.up E, (c.up E).put i z⟩)
theorem run_asg {n : Str} {p : Pos} (i : Nat) (hN : X.N.Nodup) (h : Ev true X Γ e r x) (k : Run b X rest D (Γ.set i (.pub r x))) (hi : X.N[i]? = some n := by rfl) (hx : Loc X.env.scope n := by first | exact Or.inl rfl | exact Or.inr rfl) (hs : swapsWith e (some (.Name n p)) pos.line X.env = pure false := by rfl)
    (hf : X.fn n = true ∨ X.env.scope.names.lookup n = some .local := by first | exact .inl rfl | exact .inr rfl) : Run b X (.Assign [.Name n p] e pos :: rest) D Γ :=
  run_asgP i hN h.p (fun y q => by rw [q]; exact k) hi hx hs hf
/-- a new object's address is local -/
theorem new_loc {I H I' H' : Hp} {a : Addr} (o : Ok b I H) (h : H a = none) : b.H0 a = none := by
  cases q : b.H0 a with
  | none => rfl
  | some u => exact absurd h (o.al a (by rw [q]; exact fun z => nomatch z))
theorem run_asgN {n : Str} {p : Pos} {o : Own α} (i : Nat) (hN : X.N.Nodup) (h : EvN X Γ e o x) (k : Run b X rest D (Γ.set i (.own o x))) (hi : X.N[i]? = some n := by rfl) (hx : Loc X.env.scope n := by first | exact Or.inl rfl | exact Or.inr rfl) (hs : swapsWith e (some (.Name n p)) pos.line X.env = pure false := by rfl)
    (hf : X.fn n = true ∨ X.env.scope.names.lookup n = some .local := by first | exact .inl rfl | exact .inr rfl) : Run b X (.Assign [.Name n p] e pos :: rest) D Γ :=
  run_of fun σ I H fp ok c => PS.w (ps_set hN hi hx pe_w hs hf) (h b σ I H fp ok.ih c _ fun v I' H' f E z nw => k _ _ ⟨I', _, ok.up E, (c.up E).putOwn i z (fun a m => new_loc (I' := I') (H' := H') ok (nw a m).1) (fun a m => (nw a m).2) fun j a _ m m2 => (c.prv j a m2).2 (nw a m).1⟩)
theorem run_asgT {P : α → Prop} {e : Expr} (ht : ∀ x, P x → Tg X Γ tg is r x (Γ1 : List B)) (h : EvP true X Γ e r P) (k : ∀ x, P x → Run b X rest D Γ1) (hs : swapsWithSole [tg] e pos.line X.env = pure false := by rfl) (hw : swappedStores [tg] e X.env = pure none := by rfl)
    (h1 : (assignEach [tg] X.env).map (·.2) = [assign tg X.env] := by rfl) : Run b X (.Assign [tg] e pos :: rest) D Γ :=
  run_of fun σ I H fp o c => PS.w (ps_asg pe_w pg_w hs hw h1) (h b σ I H fp o.ih c _ fun v I' H' y E z p => ht y p b σ I' H' fp v E.ih (c.up E) z _ fun σ' fp' c' _ _ _ => k y p _ _ ⟨I', fp', o.up E, c'⟩)
theorem run_unp {e : Expr} (h : Ev true X Γ e r x) (ht : Tg X Γ tg is r x Γ1) (k : Run b X rest D Γ1) (hs : swapsWithSole [tg] e pos.line X.env = pure false := by rfl) (hw : swappedStores [tg] e X.env = pure none := by rfl)
    (h1 : (assignEach [tg] X.env).map (·.2) = [assign tg X.env] := by rfl) : Run b X (.Assign [tg] e pos :: rest) D Γ :=
  run_of fun σ I H fp o c => PS.w (ps_asg pe_w pg_w hs hw h1) (h b σ I H fp o.ih c _ fun v I' H' E z => ht b σ I' H' fp v E.ih (c.up E) z _ fun σ' fp' c' _ _ _ => k _ _ ⟨I', fp', o.up E, c'⟩)
/-- a, b = e1, e2 -/
theorem run_par {n m : Str} {pn pm pt : Pos} {kt k2 : Nat} {pt2 : Pos} {s : Rep β} {y : β} (i j : Nat) (hc : X.calm = true) (hN : X.N.Nodup) (hij : i ≠ j) (h1 : Ev true X Γ e1 r x) (h2 : Ev true X Γ e2 s y) (k : Run b X rest D ((Γ.set i (.pub r x)).set j (.pub s y)))
    (hp : PS X (.Assign [.Tuple [.Name n pn, .Name m pm] kt pt] (.Tuple [e1, e2] k2 pt2) pos) (tPar i j (wA X [e1, e2])))
    (s1 : starEach [e1, e2] X.env = (false, eval e1 X.env) :: starEach [e2] X.env := by rfl) (s2 : starEach [e2] X.env = (false, eval e2 X.env) :: starEach [] X.env := by rfl) : Run b X (.Assign [.Tuple [.Name n pn, .Name m pm] kt pt] (.Tuple [e1, e2] k2 pt2) pos :: rest) D Γ :=
  run_of fun σ I H fp o c => PS.w hp (PA.w (pa_cons pe_w (pa_cons pe_w pa_nil s2) s1) (h1 b σ I H fp o.ih c _ fun v I1 H1 E1 z1 => h2 b σ I1 H1 fp E1.ih (c.up E1) _ fun w I2 H2 E2 z2 =>
    ⟨v, w, rfl, k _ _ ⟨I2, _, (o.up E1).up E2, (((c.up E1).up E2).put i (r.up E2.ii z1)).put j z2⟩⟩))
theorem run_if {t : Bool} {a d : List Stmt} (h : EvT X Γ c t) (h1 : t = true → Run b X a (D.sq X rest) Γ) (h2 : t = false → Run b X d (D.sq X rest) Γ) : Run b X (.If c a d pos :: rest) D Γ :=
  run_of fun σ I H fp o cn => PS.w (ps_if pt_w pss_w pss_w) (h b σ I H fp o.ih cn _ fun I' H' E => by
    cases t with
    | true => exact iteT (h1 rfl _ _ ⟨I', fp, o.up E, cn.up E⟩)
    | false => exact iteF (h2 rfl _ _ ⟨I', fp, o.up E, cn.up E⟩))
/-- an if whose test is known -/
theorem run_no {a : List Stmt} {t : Bool} (h : EvT X Γ c t) (ht : t = false) (h2 : Run b X rest D Γ) : Run b X (.If c a [] pos :: rest) D Γ := run_if h (fun z => absurd (z.symm.trans ht) (by decide)) fun _ => run_end h2
theorem run_yes {a d : List Stmt} {t : Bool} (h : EvT X Γ c t) (ht : t = true) (h2 : Run b X a (D.sq X rest) Γ) : Run b X (.If c a d pos :: rest) D Γ := run_if h (fun _ => h2) fun z => absurd (z.symm.trans ht) (by decide)
theorem run_drop {P : α → Prop} (h : EvP ρ X Γ e r P) (k : Run b X rest D Γ) (hs : swapsWith e none pos.line X.env = pure false := by rfl) : Run b X (.Expr e pos :: rest) D Γ :=
  run_of fun σ I H fp o c => PS.w (ps_expr pe_w hs) (h b σ I H fp o.ih c _ fun v I' H' y E z p => k _ _ ⟨I', fp, o.up E, c.up E⟩)
theorem run_ret (h : Ev true X Γ e r x) (k : Rt b D Γ r x) : Run b X (.Return (some e) pos :: rest) D Γ :=
  run_of fun σ I H fp o c => PS.w (ps_ret pe_w) (h b σ I H fp o.ih c _ fun v I' H' E z => k _ _ _ _ _ (o.up E) (c.up E) z)
theorem run_retP {P : α → Prop} (h : EvP true X Γ e r P) (k : ∀ x, P x → Rt b D Γ r x) : Run b X (.Return (some e) pos :: rest) D Γ :=
  run_of fun σ I H fp o c => PS.w (ps_ret pe_w) (h b σ I H fp o.ih c _ fun v I' H' y E z p => k y p _ _ _ _ _ (o.up E) (c.up E) z)
/-- what is owned becomes public -/
theorem run_pub {o : Own α} (i : Nat) (g : Γ[i]? = some (.own o x)) (k : Run b X rest D (Γ.set i (.pub o.rep x))) : Run b X rest D Γ := fun σ H q => by
  obtain ⟨I, fp, ok, c⟩ := q
  obtain ⟨o2, _, c2⟩ := c.publish ok g
  exact k σ H ⟨_, _, o2, c2⟩
/-- an own list, dict: what a change leaves -/
theorem own_upd {σ : L2.St} {I H : Hp} {fp : Nat → List Addr} {o : Own α} {y : α} {p : Addr} {i : Nat} {u : HO} (ok : Ok b I H) (c : Cn b I H σ Γ fp) (hσ : σ[i]? = some (some (.ref p))) (hf : fp i = [p]) (hl : b.H0 p = none) (ho : o.is I (upd H p u) (.ref p) [p] y) :
    Sg b (Γ.set i (.own o y)) σ (upd H p u) := by
  have hp : p ∈ fp i := by rw [hf]; simp
  have hpr := c.prv i p hp
  refine ⟨I, _, ⟨ok.i0, fun a u e w => ?_, fun a u e => ?_, ok.pr, fun a z => ?_⟩, c.mutOwn hσ ho (fun a m => ?_) (fun a m => ?_) (fun j a hj m m2 => ?_) (fun j a hj m => ?_)⟩
  · rw [upd_ne (fun z => by rw [z, hl] at e; cases e)]; exact ok.h0 _ _ e w
  · rw [upd_ne (fun z => by rw [z, hpr.1] at e; cases e)]; exact ok.ih _ _ e
  · by_cases q : a = p
    · rw [q, upd_same]; exact fun z => nomatch z
    · rw [upd_ne q]; exact ok.al a z
  · obtain rfl : a = p := by simpa using m
    exact hl
  · obtain rfl : a = p := by simpa using m
    exact ⟨hpr.1, by rw [upd_same]; exact fun z => nomatch z⟩
  · obtain rfl : a = p := by simpa using m
    exact hj (c.dis j i a m2 hp)
  · exact upd_ne fun z => hj (c.dis j i a m (by rw [z]; exact hp))
theorem run_app {n : Str} {p p2 p3 : Pos} {xs : List α} (i : Nat) (g : Γ[i]? = some (.own (oLst r) xs)) (h : Ev true X Γ e r x) (hz : xs.length < sizeLine) (k : Run b X rest D (Γ.set i (.own (oLst r) (xs ++ [x])))) (hN : X.N[i]? = some n := by rfl) (hv : Vis X.env.scope n := by first | exact Or.inl rfl | exact Or.inr (Or.inl rfl) | exact Or.inr (Or.inr rfl))
    (hp : PS X (.Expr (.Call (.Attribute (.Name n p) "append" p2) [e] [] p3) pos) (tDrop (tBM X.K "list" rAppend (tVar i) (tCons (wE X e) tNil))) := by exact ps_expr (pe_bm PySem.F.plainAttrs_list PySem.F.slot_list_append PySem.F.type_list_append mt_append (pv _) (pa_cons pe_w pa_nil))) : Run b X (.Expr (.Call (.Attribute (.Name n p) "append" p2) [e] [] p3) pos :: rest) D Γ :=
  run_of fun σ I H fp o c => by
    obtain ⟨v, hσ, ⟨q, vs, rfl, hf, a1, p1⟩, hl⟩ := c.get_own g
    refine PS.w hp ⟨_, hσ, .inl ⟨rfl, _, SqL.of a1⟩, h b σ I H fp o.ih c _ fun w I' H' E z => ⟨q, vs, w, rfl, rfl, E.hh _ _ a1, by rw [Paired.length p1]; exact hz, ?_⟩⟩
    exact k _ _ (own_upd (o := oLst r) (o.up E) (c.up E) hσ hf (hl q (by rw [hf]; simp)) ⟨q, _, rfl, rfl, upd_same, Paired.snoc (Paired.mapP p1 fun _ _ z => r.up E.ii z) z⟩)
theorem run_setL {n : Str} {p p2 : Pos} {xs : List α} {j : Nat} (i : Nat) (g : Γ[i]? = some (.own (oLst r) xs)) (h : Ev true X Γ e r x) (h2 : Ev true X Γ e2 rNat j) (hj : j < xs.length) (k : Run b X rest D (Γ.set i (.own (oLst r) (xs.set j x)))) (hN : X.N[i]? = some n := by rfl) (hv : Vis X.env.scope n := by first | exact Or.inl rfl | exact Or.inr (Or.inl rfl) | exact Or.inr (Or.inr rfl))
    (hp : PS X (.Assign [.Subscript (.Name n p) e2 p2] e pos) (tAsg (wE X e) (gSub (tVar i) (wE X e2) rSetL)) := by exact ps_asg pe_w (pg_sub (pv _) pe_w set_list)) : Run b X (.Assign [.Subscript (.Name n p) e2 p2] e pos :: rest) D Γ :=
  run_of fun σ I H fp o c => by
    obtain ⟨v, hσ, ⟨q, vs, rfl, hf, a1, p1⟩, hl⟩ := c.get_own g
    refine PS.w hp (h b σ I H fp o.ih c _ fun w I' H' E z => ⟨_, hσ, h2 b σ I' H' fp E.ih (c.up E) _ fun w2 I2 H2 E2 z2 => ?_⟩)
    cases z2
    have e3 : ixN vs.length (j : Int) = some j := by
      unfold ixN
      rw [if_pos (by omega), if_pos (by rw [Paired.length p1]; omega)]
      simp
    refine ⟨q, vs, _, j, rfl, rfl, E2.hh _ _ (E.hh _ _ a1), e3, ?_⟩
    exact k _ _ (own_upd (o := oLst r) ((o.up E).up E2) ((c.up E).up E2) hσ hf (hl q (by rw [hf]; simp)) ⟨q, _, rfl, rfl, upd_same, prd_set (r.up E2.ii z) j (Paired.mapP p1 fun _ _ z => r.up (E.trans E2).ii z)⟩)
theorem run_setT {n : Str} {p p2 : Pos} {t : List ((Nat × Nat) × α)} {key : Nat × Nat} (i : Nat) (hu : X.A.units + 1 < cLine) (g : Γ[i]? = some (.own (oTab r) t)) (h : Ev true X Γ e r x) (h2 : Ev true X Γ e2 rPP key) (hz : t.length < sizeLine) (k : Run b X rest D (Γ.set i (.own (oTab r) (tput t key x)))) (hN : X.N[i]? = some n := by rfl) (hv : Vis X.env.scope n := by first | exact Or.inl rfl | exact Or.inr (Or.inl rfl) | exact Or.inr (Or.inr rfl))
    (hd : (n == ("__debug__" : Str)) = false := by decide) (hcd : (n == ("__classdict__" : Str)) = false := by decide) (hs : swapsWith e (some (.Subscript (.Name n p) e2 p2)) pos.line X.env = pure false := by rfl) : Run b X (.Assign [.Subscript (.Name n p) e2 p2] e pos :: rest) D Γ :=
  run_of fun σ I H fp o c => by
    obtain ⟨v, hσ, ⟨q, vs, rfl, hf, a1, p1⟩, hl⟩ := c.get_own g
    refine PS.w (ps_dput hu (pv i hN hv hd hcd) pe_w pe_w hs) (h b σ I H fp o.ih c _ fun w I' H' E z => ⟨_, hσ, h2 b σ I' H' fp E.ih (c.up E) _ fun w2 I2 H2 E2 z2 => ?_⟩)
    obtain ⟨bb, rfl, a2⟩ := rPP_of z2 (vw_in E2.ih)
    refine ⟨q, _, rfl, DPut.t (E2.hh _ _ (E.hh _ _ a1)) a2 (by rw [p1.length]; exact hz), ?_⟩
    exact k _ _ (own_upd (o := oTab r) ((o.up E).up E2) ((c.up E).up E2) hσ hf (hl q (by rw [hf]; simp)) ⟨q, _, rfl, rfl, upd_same, Ents.put kP_inj (Paired.mapP p1 fun _ _ z => ⟨z.1, r.up (E.trans E2).ii z.2⟩) key (r.up E2.ii z)⟩)
theorem run_setK {n : Str} {p p2 : Pos} {t : List (Nat × α)} {key : Nat} (i : Nat) (hu : X.A.units + 1 < cLine) (g : Γ[i]? = some (.own (oDic r) t)) (h : Ev true X Γ e r x) (h2 : Ev true X Γ e2 rNat key) (hz : t.length < sizeLine) (k : Run b X rest D (Γ.set i (.own (oDic r) (tput t key x)))) (hN : X.N[i]? = some n := by rfl) (hv : Vis X.env.scope n := by first | exact Or.inl rfl | exact Or.inr (Or.inl rfl) | exact Or.inr (Or.inr rfl))
    (hd : (n == ("__debug__" : Str)) = false := by decide) (hcd : (n == ("__classdict__" : Str)) = false := by decide) (hs : swapsWith e (some (.Subscript (.Name n p) e2 p2)) pos.line X.env = pure false := by rfl) : Run b X (.Assign [.Subscript (.Name n p) e2 p2] e pos :: rest) D Γ :=
  run_of fun σ I H fp o c => by
    obtain ⟨v, hσ, ⟨q, vs, rfl, hf, a1, p1⟩, hl⟩ := c.get_own g
    refine PS.w (ps_dput hu (pv i hN hv hd hcd) pe_w pe_w hs) (h b σ I H fp o.ih c _ fun w I' H' E z => ⟨_, hσ, h2 b σ I' H' fp E.ih (c.up E) _ fun w2 I2 H2 E2 z2 => ?_⟩)
    cases z2
    refine ⟨q, _, rfl, DPut.k (k := kI key) (E2.hh _ _ (E.hh _ _ a1)) (by rw [p1.length]; exact hz), ?_⟩
    exact k _ _ (own_upd (o := oDic r) ((o.up E).up E2) ((c.up E).up E2) hσ hf (hl q (by rw [hf]; simp)) ⟨q, _, rfl, rfl, upd_same, Ents.put kI_inj (Paired.mapP p1 fun _ _ z => ⟨z.1, r.up (E.trans E2).ii z.2⟩) key (r.up E2.ii z)⟩)
/-- x += e, an int -/
theorem run_augI {n : Str} {p : Pos} {z y : Int} (i : Nat) (hN' : X.N.Nodup) (g : Γ[i]? = some (.pub rInt z)) (h : Ev true X Γ e rInt y) (k : Run b X rest D (Γ.set i (.pub rInt (z + y)))) (hi : X.N[i]? = some n := by rfl) (hx : Loc X.env.scope n := by first | exact Or.inl rfl | exact Or.inr rfl)
    (hf : X.fn n = true ∨ X.env.scope.names.lookup n = some .local := by first | exact .inl rfl | exact .inr rfl) : Run b X (.AugAssign (.Name n p) .Add e pos :: rest) D Γ :=
  run_of fun σ I H fp o c => by
    obtain ⟨v, e1, z1⟩ := c.get_pub g
    cases z1
    exact PS.w (ps_aug hN' hi hx pe_w ip_add hf) ⟨_, e1, h b σ I H fp o.ih c _ fun w I' H' E z2 => by
      cases z2
      exact ⟨z, y, rfl, rfl, k _ _ ⟨I', _, o.up E, (c.up E).put i (r := rInt) rfl⟩⟩⟩

/-! ### loops -/
/-- what is wanted behind a turn -/
abbrev lp (D : Ends) (X : Cx) (rest : List Stmt) (N : L2.St → Hp → Prop) : Ends := { D with nx := N, ct := N, bk := wSs X rest D }
theorem run_for {iter : Expr} {xs : List α} (hc : X.calm = true) (h : Ev true X Γ iter (rLst r) xs) (Γs : Nat → List B) (h0 : Le Γ (Γs 0))
    (hs : ∀ b1, BsLe b b1 → ∀ i x, xs[i]? = some x → ∃ is Γ', Tg X (Γs i) tg is r x Γ' ∧ Run b1 X body (lp D X rest (Sg b1 (Γs (i + 1)))) Γ') (hd : Run b X rest D (Γs xs.length))
    (hp : PassesOwn (model X.prog X.w) X.A X.env X.xe := by exact PassesOwn.never) (hf : ∀ x, foldedSetIterable iter X.env x = pure x := by intro _; rfl) : Run b X (.For tg iter body [] pos :: rest) D Γ :=
  run_of fun σ I H fp o c => PS.w (ps_for hp hc (pi_list pe_w) pg_w pss_w hf) (h b σ I H fp o.ih c _ fun v I1 H1 E z => by
    obtain ⟨p, vs, rfl, a1, p1⟩ := z
    have o1 := o.up E
    have hl := Paired.length p1
    refine ⟨p, rfl, ⟨vs, SqL.of (E.ih _ _ a1)⟩, for_list (xs := vs) (fun i σ' H' => Sg (b.at_ I1) (Γs i) σ' H') ⟨I1, fp, Bs.ok_at o1 o1 (Same.refl _), ((Bs.le_at o1).cn' (c.up E)).le h0⟩ (fun i σ' H' _ q => ?_) (fun i u σ' H' hi q => ?_) fun σ' H' q => hd _ _ (by rw [← hl]; exact (Bs.le_at o1).sg q)⟩
    · obtain ⟨J, fp', ok, _⟩ := q
      exact SqL.of (ok.ih _ _ (ok.i0 _ _ a1))
    · obtain ⟨x, hx, hr⟩ := prd_get' p1 hi
      obtain ⟨is, Γ', ht, hb⟩ := hs _ (Bs.le_at o1) i x hx
      obtain ⟨J, fp', ok, c'⟩ := q
      exact ht _ σ' J H' fp' u ok.ih c' (r.up ok.i0 hr) _ fun σ2 fp2 c2 _ _ _ => hb _ _ ⟨J, fp2, ok, c2⟩)
/-- over a written tuple of like items -/
def rTupL (r : Rep α) : Rep (List α) where
  is := fun I v xs => ∃ p vs, v = .ref p ∧ I p = some (.tup vs) ∧ Paired (r.is I) vs xs
  up := fun e h => by
    obtain ⟨p, vs, e1, e2, e3⟩ := h
    exact ⟨p, vs, e1, e _ _ e2, L2.Paired.mapP e3 fun _ _ q => r.up e q⟩
theorem ev_tupL {xs : List α} {x1} (h : EvI X Γ es r xs) (hl : xs.length ≤ 1000 := by first | decide | simp) : Ev true X Γ (.Tuple es x1 pos) (rTupL r) xs :=
  fun b σ I H fp hS k Q hq => PE.w (pe_tup pa_w) (h b σ I H fp hS k _ fun vs I1 H1 E z => ⟨by rw [Paired.length z]; exact Nat.le_trans hl (by decide), fun p hp => by
    have E2 : Ext I1 H1 (upd I1 p (.tup vs)) (upd H1 p (.tup vs)) := Ext.new E.ih hp
    exact hq _ _ _ (E.trans E2) ⟨p, vs, rfl, upd_same, Paired.mapP z fun _ _ q => r.up E2.ii q⟩⟩)
theorem run_forT {iter : Expr} {xs : List α} (hc : X.calm = true) (h : Ev true X Γ iter (rTupL r) xs) (Γs : Nat → List B) (h0 : Le Γ (Γs 0))
    (hs : ∀ b1, BsLe b b1 → ∀ i x, xs[i]? = some x → ∃ is Γ', Tg X (Γs i) tg is r x Γ' ∧ Run b1 X body (lp D X rest (Sg b1 (Γs (i + 1)))) Γ') (hd : Run b X rest D (Γs xs.length))
    (hp : PassesOwn (model X.prog X.w) X.A X.env X.xe := by exact PassesOwn.never) (hf : ∀ x, foldedSetIterable iter X.env x = pure x := by intro _; rfl) : Run b X (.For tg iter body [] pos :: rest) D Γ :=
  run_of fun σ I H fp o c => PS.w (ps_for hp hc (pi_tup pe_w) pg_w pss_w hf) (h b σ I H fp o.ih c _ fun v I1 H1 E z => by
    obtain ⟨p, vs, rfl, a1, p1⟩ := z
    have o1 := o.up E
    have hl := Paired.length p1
    refine ⟨p, rfl, ⟨vs, SqT.of (E.ih _ _ a1)⟩, for_tup (xs := vs) (fun i σ' H' => Sg (b.at_ I1) (Γs i) σ' H') ⟨I1, fp, Bs.ok_at o1 o1 (Same.refl _), ((Bs.le_at o1).cn' (c.up E)).le h0⟩ (fun i σ' H' _ q => ?_) (fun i u σ' H' hi q => ?_) fun σ' H' q => hd _ _ (by rw [← hl]; exact (Bs.le_at o1).sg q)⟩
    · obtain ⟨J, fp', ok, _⟩ := q
      exact SqT.of (ok.ih _ _ (ok.i0 _ _ a1))
    · obtain ⟨x, hx, hr⟩ := prd_get' p1 hi
      obtain ⟨is, Γ', ht, hb⟩ := hs _ (Bs.le_at o1) i x hx
      obtain ⟨J, fp', ok, c'⟩ := q
      exact ht _ σ' J H' fp' u ok.ih c' (r.up ok.i0 hr) _ fun σ2 fp2 c2 _ _ _ => hb _ _ ⟨J, fp2, ok, c2⟩)
/-- over reversed(a list) -/
theorem run_forV {e : Expr} {p p2 : Pos} {xs : List α} (hc : X.calm = true) (hm : X.mg "reversed" = none) (h : Ev true X Γ e (rLst r) xs) (Γs : Nat → List B) (h0 : Le Γ (Γs 0))
    (hs : ∀ b1, BsLe b b1 → ∀ i x, xs.reverse[i]? = some x → ∃ is Γ', Tg X (Γs i) tg is r x Γ' ∧ Run b1 X body (lp D X rest (Sg b1 (Γs (i + 1)))) Γ') (hd : Run b X rest D (Γs xs.length)) (hg : Gl X "reversed" := by rfl) (hst : starEach [e] X.env = (false, eval e X.env) :: starEach [] X.env := by rfl)
    (hp : PassesOwn (model X.prog X.w) X.A X.env X.xe := by exact PassesOwn.never) (hf : ∀ x, foldedSetIterable (.Call (.Name "reversed" p) [e] [] p2) X.env x = pure x := by intro _; rfl) : Run b X (.For tg (.Call (.Name "reversed" p) [e] [] p2) body [] pos :: rest) D Γ :=
  run_of fun σ I H fp o c => PS.w (ps_for hp hc (RT.pi_revA hg hm pe_w hst) pg_w pss_w hf) (h b σ I H fp o.ih c _ fun v I1 H1 E z => by
    obtain ⟨q, vs, rfl, a1, p1⟩ := z
    have o1 := o.up E
    have hl := Paired.length p1
    refine ⟨q, vs, rfl, .inl ⟨SqL.of (E.ih _ _ a1), RT.for_Itv (xs := vs) (fun i σ' H' => Sg (b.at_ I1) (Γs i) σ' H') ⟨I1, fp, Bs.ok_at o1 o1 (Same.refl _), ((Bs.le_at o1).cn' (c.up E)).le h0⟩ (fun i σ' H' q => ?_) (fun i u σ' H' hlt hi q => ?_) fun σ' H' q => hd _ _ (by rw [← hl]; exact (Bs.le_at o1).sg q)⟩⟩
    · obtain ⟨J, fp', ok, _⟩ := q
      exact SqL.of (ok.ih _ _ (ok.i0 _ _ a1))
    · obtain ⟨x, hx, hr⟩ := prd_get' p1 hi
      have hx2 : xs.reverse[i]? = some x := by rw [List.getElem?_reverse (by omega), ← hl]; exact hx
      obtain ⟨is, Γ', ht, hb⟩ := hs _ (Bs.le_at o1) i x hx2
      obtain ⟨J, fp', ok, c'⟩ := q
      exact ht _ σ' J H' fp' u ok.ih c' (r.up ok.i0 hr) _ fun σ2 fp2 c2 _ _ _ => hb _ _ ⟨J, fp2, ok, c2⟩)
/-- over range(n) -/
theorem run_forR {e : Expr} {p p2 : Pos} {n : Nat} (hc : X.calm = true) (hm : X.mg "range" = none) (h : Ev true X Γ e rNat n) (hn : n < 2 ^ 62) (Γs : Nat → List B) (h0 : Le Γ (Γs 0))
    (hs : ∀ b1, BsLe b b1 → ∀ i, i < n → ∃ is Γ', Tg X (Γs i) tg is rNat i Γ' ∧ Run b1 X body (lp D X rest (Sg b1 (Γs (i + 1)))) Γ') (hd : Run b X rest D (Γs n)) (hg : Gl X "range" := by rfl) (hst : starEach [e] X.env = [(false, eval e X.env)] := by rfl)
    (hp : PassesOwn (model X.prog X.w) X.A X.env X.xe := by exact PassesOwn.never) (hf : ∀ x, foldedSetIterable (.Call (.Name "range" p) [e] [] p2) X.env x = pure x := by intro _; rfl) : Run b X (.For tg (.Call (.Name "range" p) [e] [] p2) body [] pos :: rest) D Γ :=
  run_of fun σ I H fp o c => PS.w (ps_for hp hc (pi_range1 hg hm (pa_cons pe_w pa_nil hst) hst) pg_w pss_w hf) (h b σ I H fp o.ih c _ fun v I1 H1 E z => by
    cases z
    have o1 := o.up E
    refine ⟨_, rfl, by omega, by omega, for_range (lo := 0) (n := n) (fun i σ' H' => Sg (b.at_ I1) (Γs i) σ' H') ⟨I1, fp, Bs.ok_at o1 o1 (Same.refl _), ((Bs.le_at o1).cn' (c.up E)).le h0⟩ (fun i σ' H' hi q => ?_) fun σ' H' q => hd _ _ ((Bs.le_at o1).sg q)⟩
    obtain ⟨is, Γ', ht, hb⟩ := hs _ (Bs.le_at o1) i hi
    obtain ⟨J, fp', ok, c'⟩ := q
    exact ht _ σ' J H' fp' _ ok.ih c' (by show V.int (0 + (i : Int)) = V.int (i : Int); rw [Int.zero_add]) _ fun σ2 fp2 c2 _ _ _ => hb _ _ ⟨J, fp2, ok, c2⟩)
/-- over range(m, n) -/
theorem run_forR2 {e1 e2 : Expr} {p p2 : Pos} {m n : Nat} (hc : X.calm = true) (hm : X.mg "range" = none) (h1 : Ev true X Γ e1 rNat m) (h2 : Ev true X Γ e2 rNat n) (hm2 : m < 2 ^ 62) (hn : n < 2 ^ 62) (Γs : Nat → List B) (h0 : Le Γ (Γs 0))
    (hs : ∀ b1, BsLe b b1 → ∀ i, i < n - m → ∃ is Γ', Tg X (Γs i) tg is rNat (m + i) Γ' ∧ Run b1 X body (lp D X rest (Sg b1 (Γs (i + 1)))) Γ') (hd : Run b X rest D (Γs (n - m))) (hg : Gl X "range" := by rfl) (hst : starEach [e1, e2] X.env = [(false, eval e1 X.env), (false, eval e2 X.env)] := by rfl) (hst2 : starEach [e2] X.env = [(false, eval e2 X.env)] := by rfl)
    (hp : PassesOwn (model X.prog X.w) X.A X.env X.xe := by exact PassesOwn.never) (hf : ∀ x, foldedSetIterable (.Call (.Name "range" p) [e1, e2] [] p2) X.env x = pure x := by intro _; rfl) : Run b X (.For tg (.Call (.Name "range" p) [e1, e2] [] p2) body [] pos :: rest) D Γ :=
  run_of fun σ I H fp o c => PS.w (ps_for hp hc (pi_range2 hg hm (pa_cons pe_w (pa_cons pe_w pa_nil hst2) (by rw [hst, hst2])) hst hst2) pg_w pss_w hf) (h1 b σ I H fp o.ih c _ fun v I0 H0 E0 z0 => h2 b σ I0 H0 fp E0.ih (c.up E0) _ fun v I1 H1 E z => by
    cases z; cases z0
    have o1 := (o.up E0).up E
    have e3 : ((n : Int) - (m : Int)).toNat = n - m := by omega
    refine ⟨_, _, rfl, ⟨by omega, by omega, by omega, by omega⟩, ?_⟩
    rw [e3]
    refine for_range (lo := (m : Int)) (n := n - m) (fun i σ' H' => Sg (b.at_ I1) (Γs i) σ' H') ⟨I1, fp, Bs.ok_at o1 o1 (Same.refl _), ((Bs.le_at o1).cn' ((c.up E0).up E)).le h0⟩ (fun i σ' H' hi q => ?_) fun σ' H' q => hd _ _ ((Bs.le_at o1).sg q)
    obtain ⟨is, Γ', ht, hb⟩ := hs _ (Bs.le_at o1) i hi
    obtain ⟨J, fp', ok, c'⟩ := q
    exact ht _ σ' J H' fp' _ ok.ih c' (by show V.int ((m : Int) + (i : Int)) = V.int ((m + i : Nat) : Int); rw [Int.natCast_add]) _ fun σ2 fp2 c2 _ _ _ => hb _ _ ⟨J, fp2, ok, c2⟩)
end
end T

/-! ## T5 -/
/-! The typed layer: comprehensions; a def from its body. -/
namespace T
open PySem PySem.Spec PyProof.Rows L2
section
variable {α β γ : Type} {ρ ρ' ρ'' : Bool} {b : Bs} {X : Cx} {Γ Γ' Γ1 Γ2 Δ : List B} {e e1 e2 e3 c tg elt iter : Expr} {es tgs ifs : List Expr} {r : Rep α} {x : α} {pos : Pos} {is is' : List Nat} {D : Ends} {rest body : List Stmt} {scope : Scope}
/-! ### comprehensions -/
def wipeB (Γ : List B) : List Nat → List B
  | [] => Γ
  | v :: vs => (wipeB Γ vs).set v .un
theorem Cn.set_un {σ : L2.St} {I H : Hp} {fp : Nat → List Addr} (c : Cn b I H σ Γ fp) (i : Nat) : Cn b I H (σ.set i none) (Γ.set i .un) fp where
  len := by rw [List.length_set, List.length_set, c.len]
  at_ := fun j s q => by
    by_cases e : i = j
    · subst e
      have hi : i < Γ.length := by
        have := (List.getElem?_eq_some_iff.mp q).1
        rwa [List.length_set] at this
      rw [List.getElem?_set_self hi] at q
      cases q
      trivial
    · rw [List.getElem?_set_ne e] at q
      rw [List.getElem?_set_ne e]
      exact c.at_ j s q
  dis := c.dis
  prv := c.prv
  nt := c.nt
theorem Cn.wipe {σ : L2.St} {I H : Hp} {fp : Nat → List Addr} (c : Cn b I H σ Γ fp) : ∀ vs : List Nat, Cn b I H (wipe σ vs) (wipeB Γ vs) fp
  | [] => c
  | v :: vs => (Cn.wipe c vs).set_un v
theorem wipe_get {σ : L2.St} : ∀ {vs : List Nat} {j : Nat}, j ∉ vs → (wipe σ vs)[j]? = σ[j]?
  | [], _, _ => rfl
  | v :: vs, j, h => by
    unfold L2.wipe
    rw [List.getElem?_set_ne (fun z => h (by simp [z]))]
    exact wipe_get fun m => h (List.mem_cons_of_mem _ m)
theorem wipe_in {σ τ : L2.St} (hl : τ.length = σ.length) : ∀ {vs : List Nat} {j : Nat}, j ∈ vs → (wipe τ vs)[j]? = (wipe σ vs)[j]?
  | v :: vs, j, h => by
    unfold L2.wipe
    by_cases e : v = j
    · subst e
      by_cases q : v < σ.length
      · rw [List.getElem?_set_self (by rw [wipe_length]; omega), List.getElem?_set_self (by rw [wipe_length]; omega)]
      · rw [List.getElem?_eq_none (by rw [List.length_set, wipe_length]; omega), List.getElem?_eq_none (by rw [List.length_set, wipe_length]; omega)]
    · rw [List.getElem?_set_ne e, List.getElem?_set_ne e]
      exact wipe_in hl (by rcases List.mem_cons.mp h with z | z; exact absurd z.symm e; exact z)
theorem wipe_same {σ τ : L2.St} {vs : List Nat} (hl : τ.length = σ.length) (h : ∀ j, j ∉ vs → τ[j]? = σ[j]?) : wipe τ vs = wipe σ vs := by
  apply List.ext_getElem?
  intro j
  by_cases m : j ∈ vs
  · exact wipe_in hl m
  · rw [wipe_get m, wipe_get m]; exact h j m
theorem wipe_wipe {σ : L2.St} {vs : List Nat} : wipe (wipe σ vs) vs = wipe σ vs := wipe_same (wipe_length _ _) fun _ m => wipe_get m
/-- a list that stands there, its items published -/
def EvL (X : Cx) (Γ : List B) (e : Expr) (r : Rep α) (xs : List α) : Prop := ∀ (b : Bs) (σ : L2.St) (I H : Hp) (fp : Nat → List Addr), Same I H → Cn b I H σ Γ fp →
  ∀ Q : VK, (∀ p vs I' H', Ext I H I' H' → H' p = some (.lst vs) → Paired (r.is I') vs xs → Q (.ref p) H') → wE X e σ H Q
theorem Ev.l {xs : List α} (h : Ev true X Γ e (rLst r) xs) : EvL X Γ e r xs := fun b σ I H fp s k Q q => h b σ I H fp s k Q fun v I' H' E z => by
  obtain ⟨p, vs, rfl, a1, p1⟩ := z
  exact q p vs I' H' E (E.ih _ _ a1) p1
theorem EvN.l {xs : List α} (h : EvN X Γ e (oLst r) xs) : EvL X Γ e r xs := fun b σ I H fp s k Q q => h b σ I H fp s k Q fun v I' H' f E z n => by
  obtain ⟨p, vs, rfl, rfl, a1, p1⟩ := z
  exact q p vs I' H' E a1 p1
theorem ev_ownL {xs : List α} {n : Str} (i : Nat) (g : Γ[i]? = some (.own (oLst r) xs) := by rfl) (hN : X.N[i]? = some n := by rfl) (hv : Vis X.env.scope n := by first | exact Or.inl rfl | exact Or.inr (Or.inl rfl) | exact Or.inr (Or.inr rfl))
    (hd : (n == ("__debug__" : Str)) = false := by decide) (hcd : (n == ("__classdict__" : Str)) = false := by decide) : EvL X Γ (.Name n pos) r xs := fun b σ I H fp s k Q q => by
  obtain ⟨v, e, ⟨p, vs, rfl, _, a1, p1⟩, _⟩ := k.get_own g
  exact PE.w (pv i hN hv hd hcd) ⟨_, e, q p vs I H (Ext.refl s) a1 p1⟩
/-- in every block of the comprehension -/
abbrev Blk (X : Cx) (scope : Scope) (P : Cx → Prop) : Prop := ∀ (s : Shared) (H : Hp) (C : Addr) (cl : List (Str × Addr)) (fp : List Addr), P (X.blk s H scope (compEnvC scope cl C X.env) fp)
def bE (X : Cx) (scope : Scope) (e : Expr) : TE := fun σ H Q => Blk X scope fun Y => wE Y e σ H Q
def bT (X : Cx) (scope : Scope) (c : Expr) : TT := fun σ H Q => Blk X scope fun Y => wT Y c σ H Q
def bG (X : Cx) (scope : Scope) (tg : Expr) : TG := fun v σ H Q => Blk X scope fun Y => wG Y tg v σ H Q
theorem bE_ok (s : Shared) (H : Hp) (C : Addr) (cl : List (Str × Addr)) (fp : List Addr) : PE (X.blk s H scope (compEnvC scope cl C X.env) fp) e (bE X scope e) := ⟨fun pins st σ G Q I h => h s H C cl fp pins st I⟩
theorem bT_ok (s : Shared) (H : Hp) (C : Addr) (cl : List (Str × Addr)) (fp : List Addr) : PT (X.blk s H scope (compEnvC scope cl C X.env) fp) c (bT X scope c) := ⟨fun pins st σ G Q I h => h s H C cl fp pins st I⟩
theorem bG_ok (s : Shared) (H : Hp) (C : Addr) (cl : List (Str × Addr)) (fp : List Addr) : PG (X.blk s H scope (compEnvC scope cl C X.env) fp) tg (bG X scope tg) := ⟨fun pins st σ G v u Q I r h => h s H C cl fp pins st u I r⟩
/-- a list comprehension gives a new list -/
structure LcN (X : Cx) (Γ : List B) (e : Expr) (r : Rep α) (ys : List α) : Prop where
  ex : ∃ (elt tg iter : Expr) (ifs : List Expr) (scope : Scope) (pos : Pos) (own : List (Str × Nat)) (wi : TI) (g : TG) (tt : TT) (te : TE),
    e = .ListComp elt [⟨tg, iter, ifs, 0⟩] scope pos ∧ X.calm = true ∧ X.N.Nodup ∧ PI X tg iter wi ∧ BlkOk X.N X.env.scope scope own ∧ (Blk X scope fun Y => PG Y tg g) ∧ (Blk X scope fun Y => PTs Y ifs tt) ∧ (Blk X scope fun Y => PE Y elt te) ∧ (∀ x, foldedSetIterable iter X.env x = pure x) ∧
    ∀ (b : Bs) (σ : L2.St) (I H : Hp) (fp : Nat → List Addr), Same I H → Cn b I H σ Γ fp → ∀ Q : VK, (∀ p vs I' H', Ext I H I' H' → H p = none → I' p = none → H' p = some (.lst vs) → Paired (r.is I') vs ys → Q (.ref p) H') → tLc wi g tt te (own.map (·.2)) σ H Q
theorem ev_lc {ys : List α} (h : LcN X Γ e r ys) : EvN X Γ e (oLst r) ys := by
  obtain ⟨elt, tg, iter, ifs, scope, pos, own, wi, g, tt, te, rfl, hc, hN, hi, ok, hg, ht, he, hs, h⟩ := h.ex
  exact fun b σ I H fp s k Q q => PE.w (pe_lc hc hN hi ok hg ht he hs) (h b σ I H fp s k Q fun p vs I' H' E n1 n2 a z => q _ I' H' [p] E ⟨p, vs, rfl, rfl, a, z⟩ fun a' m => by
    obtain rfl : a' = p := by simpa using m
    exact ⟨n1, n2, by rw [a]; exact fun z => nomatch z⟩)
/-- y = [..] -/
theorem run_asgLc {n : Str} {p : Pos} {ys : List α} {elt tg iter : Expr} {ifs : List Expr} {scope : Scope} {pos2 : Pos} (i : Nat) (h : LcN X Γ (.ListComp elt [⟨tg, iter, ifs, 0⟩] scope pos2) r ys) (k : Run b X rest D (Γ.set i (.own (oLst r) ys))) (hi : X.N[i]? = some n := by rfl) (hx : X.env.scope.names.lookup n = some .local := by rfl)
    (hsw : swapsWith (.ListComp elt [⟨tg, iter, ifs, 0⟩] scope pos2) (some (.Name n p)) pos.line X.env = pure true := by exact sw_true rfl rfl rfl (by decide +kernel)) : Run b X (.Assign [.Name n p] (.ListComp elt [⟨tg, iter, ifs, 0⟩] scope pos2) pos :: rest) D Γ := by
  obtain ⟨elt', tg', iter', ifs', scope', pos', own, wi, g, tt, te, e0, hc, hN, hI, ok, hg, ht, he, hs, h⟩ := h.ex
  injection e0 with e1 e2 e3 e4
  injection e2 with e2 _
  injection e2 with e5 e6 e7 _
  subst e1 e3 e4 e5 e6 e7
  exact run_of fun σ I H fp o c => PS.w (ps_setLc hc hN hi hx hsw hI ok hg ht he hs) (h b σ I H fp o.ih c _ fun p vs I' H' E n1 n2 a z => k _ _ ⟨I', _, o.up E, (c.up E).putOwn i (o := oLst r) ⟨p, vs, rfl, rfl, a, z⟩ (fun a' m => by
      obtain rfl : a' = p := by simpa using m
      exact new_loc (I' := I') (H' := H') o n1) (fun a' m => by
      obtain rfl : a' = p := by simpa using m
      exact ⟨n2, by rw [a]; exact fun z => nomatch z⟩) fun j a' _ m m2 => by
      obtain rfl : a' = p := by simpa using m
      exact (c.prv j a' m2).2 n1⟩)
/-- the turns of a comprehension -/
structure LcInv (X : Cx) (I1 H1 : Hp) (r : Rep α) (Dl : Addr) (ys : List α) (H' : Hp) : Prop where
  ex : ∃ I' vs, Ext I1 H1 I' H' ∧ I' Dl = none ∧ H' Dl = some (.lst vs) ∧ Paired (r.is I') vs ys
theorem lc_turn {own : List (Str × Nat)} {s : Rep β} {I1 H1 I' H' : Hp} {fp : Nat → List Addr} {σ : L2.St} {Dl : Addr} {vs : List V} {ys : List α} {y : α} {x : β} {v : V} {t : Bool} {te : TE} {tt : TT} (s1 : Same I1 H1) (k : Cn b I1 H1 σ Γ fp) (hD : H1 Dl = none) (E : Ext I1 H1 I' H') (hI : I' Dl = none) (hL : H' Dl = some (.lst vs)) (hP : Paired (r.is I') vs ys)
    (hz : ys.length < sizeLine) (his : ∀ j ∈ is, j ∈ own.map (·.2)) (hx : s.is I' v x) (ht : Blk X scope fun Y => Tg Y (wipeB Γ (own.map (·.2))) tg is s x Γ')
    (htt : ∀ (σ2 : L2.St) (fp2 : Nat → List Addr), Cn b I' H' σ2 Γ' fp2 → ∀ Q : Bool → Hp → Prop, (∀ I2 H2, Ext I' H' I2 H2 → Q t H2) → tt σ2 H' Q) (he : t = true → Blk X scope fun Y => Ev true Y Γ' elt r y) (hte : te = bE X scope elt)
    {Nx : Hp → Prop} (hn : ∀ H2, LcInv X I1 H1 r Dl (if t then ys ++ [y] else ys) H2 → Nx H2) :
    bG X scope tg v (wipe σ (own.map (·.2))) H' fun σ2 H2 => wipe σ2 (own.map (·.2)) = wipe σ (own.map (·.2)) ∧ tt σ2 H2 fun b H3 => if b = true then te σ2 H3 fun y H4 => ∃ acc, H4 Dl = some (.lst acc) ∧ acc.length < sizeLine ∧ Nx (upd H4 Dl (.lst (acc ++ [y]))) else Nx H3 := by
  subst hte
  intro S0 H0 C cl fp0
  refine ht S0 H0 C cl fp0 b _ I' H' fp v E.ih ((k.up E).wipe _) hx _ fun σ2 fp2 c2 e2 l2 _ => ⟨?_, ?_⟩
  · rw [wipe_same l2 fun j hj => e2 j fun m => hj (his j m)]
    exact wipe_wipe
  · refine htt σ2 fp2 c2 _ fun I2 H2 E2 => ?_
    have nD : H' Dl ≠ none := by rw [hL]; exact fun z => nomatch z
    cases t with
    | false => exact iteF (hn _ ⟨I2, vs, E.trans E2, E2.pr _ nD hI, E2.hh _ _ hL, Paired.mapP hP fun _ _ z => r.up E2.ii z⟩)
    | true =>
      refine iteT fun S1 H5 C1 cl1 fp1 => he rfl S1 H5 C1 cl1 fp1 b σ2 I2 H2 fp2 E2.ih (c2.up E2) _ fun w I3 H3 E3 z => ?_
      have E4 := E2.trans E3
      refine ⟨vs, E4.hh _ _ hL, by rw [Paired.length hP]; exact hz, hn _ ⟨I3, vs ++ [w], ?_, E4.pr _ nD hI, upd_same, Paired.snoc (Paired.mapP hP fun _ _ z => r.up E4.ii z) z⟩⟩
      have E5 := E.trans E4
      refine ⟨E5.ii, fun a o q => ?_, fun a o q => ?_, E5.pr⟩
      · rw [upd_ne (fun z => by rw [z, hD] at q; cases q)]; exact E5.hh _ _ q
      · rw [upd_ne (fun z => by rw [z, E4.pr _ nD hI] at q; cases q)]; exact E5.ih _ _ q
theorem tYes_ok {I H : Hp} {σ : L2.St} (s : Same I H) {Q : Bool → Hp → Prop} (h : ∀ I2 H2, Ext I H I2 H2 → Q true H2) : tYes σ H Q := h I H (Ext.refl s)
/-- over a list -/
theorem lc_l {s : Rep β} {xs : List β} {g : β → α} {Γt : β → List B} (own : List (Str × Nat)) (is : List Nat) (hc : X.calm = true) (hN : X.N.Nodup) (hE : EvL X Γ iter s xs) (hz : xs.length < sizeLine) (ok : blkC X.N X.env.scope scope own = true)
    (ht : ∀ x ∈ xs, Blk X scope fun Y => Tg Y (wipeB Γ (own.map (·.2))) tg is s x (Γt x)) (he : ∀ x ∈ xs, Blk X scope fun Y => Ev true Y (Γt x) elt r (g x)) (his : ∀ j ∈ is, j ∈ own.map (·.2) := by decide)
    (hs : ∀ x, foldedSetIterable iter X.env x = pure x := by intro _; rfl) : LcN X Γ (.ListComp elt [⟨tg, iter, [], 0⟩] scope pos) r (xs.map g) := ⟨elt, tg, iter, [], scope, pos, own, iList X.K (wE X iter), bG X scope tg, tYes, bE X scope elt, rfl, hc, hN, pi_list pe_w, blkOk_by ok, bG_ok, fun _ _ _ _ _ => pts_nil, bE_ok, hs,
  fun b σ I H fp s1 k Q q => hE b σ I H fp s1 k _ fun p vs I1 H1 E a1 p1 => ⟨p, rfl, ⟨vs, SqL.of a1⟩, fun Dl hD => lc_list (xs := vs) (fun i H' => LcInv X I1 H1 r Dl ((xs.take i).map g) H')
    ⟨I1, [], Ext.own E.ih hD, E.ih.free hD, upd_same, by rw [List.take_zero]; exact .nil⟩ (fun i H' _ ⟨I', vs', E', _, _, _⟩ => SqL.of (E'.hh _ _ a1))
    (fun i v H' hi ⟨I', vs', E', n', l', p'⟩ => by
      obtain ⟨x, hx, hr⟩ := prd_get' p1 hi
      have hm : x ∈ xs := List.mem_of_getElem? hx
      have hlt : i < xs.length := (List.getElem?_eq_some_iff.mp hx).1
      refine lc_turn (s := s) (t := true) (y := g x) (is := is) (own := own) E.ih (k.up E) hD E' n' l' p' (by rw [List.length_map, List.length_take]; omega) his (s.up E'.ii hr) (ht x hm) (fun σ2 fp2 c2 Q' q' => tYes_ok E'.ih q') (fun _ => he x hm) rfl fun H2 h2 => ?_
      rw [List.take_add_one, hx]
      rw [if_pos rfl] at h2
      simpa using h2) (fun H' ⟨I', vs', E', n', l', p'⟩ => q Dl vs' I' H' (E.trans E') (E.hh.free hD) n' l' (by rw [Paired.length p1, List.take_length] at p'; exact p'))⟩⟩
/-- over a list, with a test -/
theorem lc_lf {s : Rep β} {xs : List β} {f : β → Bool} {g : β → α} {Γt : β → List B} (own : List (Str × Nat)) (is : List Nat) (hc : X.calm = true) (hN : X.N.Nodup) (hE : EvL X Γ iter s xs) (hz : xs.length < sizeLine) (ok : blkC X.N X.env.scope scope own = true)
    (ht : ∀ x ∈ xs, Blk X scope fun Y => Tg Y (wipeB Γ (own.map (·.2))) tg is s x (Γt x)) (hf : ∀ x ∈ xs, Blk X scope fun Y => EvT Y (Γt x) c (f x)) (he : ∀ x ∈ xs, f x = true → Blk X scope fun Y => Ev true Y (Γt x) elt r (g x)) (his : ∀ j ∈ is, j ∈ own.map (·.2) := by decide)
    (hs : ∀ x, foldedSetIterable iter X.env x = pure x := by intro _; rfl) : LcN X Γ (.ListComp elt [⟨tg, iter, [c], 0⟩] scope pos) r ((xs.filter f).map g) := ⟨elt, tg, iter, [c], scope, pos, own, iList X.K (wE X iter), bG X scope tg, bT X scope c, bE X scope elt, rfl, hc, hN, pi_list pe_w, blkOk_by ok, bG_ok, fun _ _ _ _ _ => pts_one (bT_ok _ _ _ _ _), bE_ok, hs,
  fun b σ I H fp s1 k Q q => hE b σ I H fp s1 k _ fun p vs I1 H1 E a1 p1 => ⟨p, rfl, ⟨vs, SqL.of a1⟩, fun Dl hD => lc_list (xs := vs) (fun i H' => LcInv X I1 H1 r Dl (((xs.take i).filter f).map g) H')
    ⟨I1, [], Ext.own E.ih hD, E.ih.free hD, upd_same, by rw [List.take_zero]; exact .nil⟩ (fun i H' _ ⟨I', vs', E', _, _, _⟩ => SqL.of (E'.hh _ _ a1))
    (fun i v H' hi ⟨I', vs', E', n', l', p'⟩ => by
      obtain ⟨x, hx, hr⟩ := prd_get' p1 hi
      have hm : x ∈ xs := List.mem_of_getElem? hx
      have hlt : i < xs.length := (List.getElem?_eq_some_iff.mp hx).1
      have hle := List.length_filter_le f (xs.take i)
      rw [List.length_take] at hle
      refine lc_turn (s := s) (t := f x) (y := g x) (is := is) (own := own) E.ih (k.up E) hD E' n' l' p' (by rw [List.length_map]; omega) his (s.up E'.ii hr) (ht x hm) (fun σ2 fp2 c2 Q' q' S0 H0 C cl fp0 => hf x hm S0 H0 C cl fp0 b σ2 I' H' fp2 E'.ih c2 Q' q') (fun z => he x hm z) rfl fun H2 h2 => ?_
      rw [List.take_add_one, hx]
      cases q : f x with
      | true => rw [q] at h2; simpa [q] using h2
      | false => rw [q] at h2; simpa [q] using h2) (fun H' ⟨I', vs', E', n', l', p'⟩ => q Dl vs' I' H' (E.trans E') (E.hh.free hD) n' l' (by rw [Paired.length p1, List.take_length] at p'; exact p'))⟩⟩
/-- over range(n) -/
theorem lc_r {n : Nat} {p2 p3 : Pos} {g : Nat → α} {Γt : Nat → List B} (own : List (Str × Nat)) (is : List Nat) (hc : X.calm = true) (hN : X.N.Nodup) (hm : X.mg "range" = none) (hE : Ev true X Γ e rNat n) (hz : n < sizeLine) (ok : blkC X.N X.env.scope scope own = true)
    (ht : ∀ x, x < n → Blk X scope fun Y => Tg Y (wipeB Γ (own.map (·.2))) tg is rNat x (Γt x)) (he : ∀ x, x < n → Blk X scope fun Y => Ev true Y (Γt x) elt r (g x)) (his : ∀ j ∈ is, j ∈ own.map (·.2) := by decide)
    (hg : Gl X "range" := by rfl) (hst : starEach [e] X.env = [(false, eval e X.env)] := by rfl) (hs : ∀ x, foldedSetIterable (.Call (.Name "range" p2) [e] [] p3) X.env x = pure x := by intro _; rfl) : LcN X Γ (.ListComp elt [⟨tg, .Call (.Name "range" p2) [e] [] p3, [], 0⟩] scope pos) r ((List.range n).map g) :=
  ⟨elt, tg, _, [], scope, pos, own, iRng1 (tCons (wE X e) tNil), bG X scope tg, tYes, bE X scope elt, rfl, hc, hN, pi_range1 hg hm (pa_cons pe_w pa_nil hst) hst, blkOk_by ok, bG_ok, fun _ _ _ _ _ => pts_nil, bE_ok, hs,
  fun b σ I H fp s1 k Q q => hE b σ I H fp s1 k _ fun v I1 H1 E z => by
    cases z
    have hs : sizeLine < 2 ^ 62 := by rw [sizeLine_eq]; decide
    refine ⟨_, rfl, by omega, by omega, fun Dl hD => lc_range (lo := 0) (n := n) (fun i H' => LcInv X I1 H1 r Dl ((List.range i).map g) H') ⟨I1, [], Ext.own E.ih hD, E.ih.free hD, upd_same, .nil⟩ (fun i H' hi ⟨I', vs', E', n', l', p'⟩ => ?_) (fun H' ⟨I', vs', E', n', l', p'⟩ => q Dl vs' I' H' (E.trans E') (E.hh.free hD) n' l' p')⟩
    refine lc_turn (s := rNat) (x := i) (t := true) (y := g i) (is := is) (own := own) E.ih (k.up E) hD E' n' l' p' (by rw [List.length_map, List.length_range]; omega) his (by show V.int (0 + (i : Int)) = V.int (i : Int); rw [Int.zero_add]) (ht i hi) (fun σ2 fp2 c2 Q' q' => tYes_ok E'.ih q') (fun _ => he i hi) rfl fun H2 h2 => ?_
    rw [List.range_succ, List.map_append]
    rw [if_pos rfl] at h2
    exact h2⟩

/-! ### a def from its body -/
/-- no arguments -/
def fNil : Fld Unit := ⟨fun _ vs _ => vs = [], fun _ h => h, 0, fun h => by rw [h]; rfl⟩
/-- the arguments as bindings -/
inductive FB : {α : Type} → Fld α → α → List B → Prop
  | nil : FB fNil () []
  | one {α : Type} {r : Rep α} {x : α} : FB (fOne r) x [.pub r x]
  | cons {α β : Type} {r : Rep α} {f : Fld β} {x : α} {y : β} {bs : List B} : FB f y bs → FB (fCons r f) (x, y) (.pub r x :: bs)
theorem FB.at_ {f : Fld α} {x : α} {bs : List B} (h : FB f x bs) : ∀ {I : Hp} {vs : List V}, f.is I vs x → vs.length = bs.length ∧ ∀ (i : Nat) (s : B), bs[i]? = some s → ∃ (γ : Type) (r : Rep γ) (y : γ), s = B.pub r y ∧ ∃ v, vs[i]? = some v ∧ r.is I v y := by
  induction h with
  | nil =>
    intro I vs z
    obtain rfl : vs = [] := z
    exact ⟨rfl, fun i s q => by simp at q⟩
  | one =>
    intro I vs z
    obtain ⟨v, rfl, z⟩ := z
    refine ⟨rfl, fun i s q => ?_⟩
    cases i with
    | zero => simp at q; subst q; exact ⟨_, _, _, rfl, v, rfl, z⟩
    | succ i => simp at q
  | cons _ ih =>
    intro I vs z
    obtain ⟨v, ws, rfl, z1, z2⟩ := z
    obtain ⟨l, q2⟩ := ih z2
    refine ⟨by simp [l], fun i s q => ?_⟩
    cases i with
    | zero => simp at q; subst q; exact ⟨_, _, _, rfl, v, rfl, z1⟩
    | succ i => simpa using q2 i s (by simpa using q)
theorem start_cn {f : Fld α} {x : α} {bs : List B} {I H : Hp} {vs : List V} {N : List Str} {b : Bs} (h : FB f x bs) (z : f.is I vs x) (hn : bs.length ≤ N.length) : Cn b I H (L2.start N vs) (bs ++ List.replicate (N.length - bs.length) .un) (fun _ => []) := by
  obtain ⟨l, q⟩ := h.at_ z
  refine ⟨?_, fun i s e => ?_, fun i j a m => by simp at m, fun i a m => by simp at m, fun i a m => by simp at m⟩
  · unfold L2.start
    simp only [List.length_append, List.length_map, List.length_replicate]
    omega
  · by_cases hi : i < bs.length
    · rw [List.getElem?_append_left hi] at e
      obtain ⟨γ, r, y, rfl, v, hv, hr⟩ := q i s e
      refine ⟨v, ?_, hr⟩
      unfold L2.start
      rw [List.getElem?_append_left (by rw [List.length_map]; omega), List.getElem?_map, hv]
      rfl
    · rw [List.getElem?_append_right (by omega)] at e
      rw [List.getElem?_replicate] at e
      split at e
      · cases e; trivial
      · cases e
abbrev bodyX (P : Program) (w : World) (K : PySem.W.Frag) (mg : Str → Option Value) (base : Heap) (N : List Str) (qual : Str) (sc : Scope) (f : Addr) (cdv : Value) (A : Around) (outer : List Env) (s : Shared) (H : Hp) (E : XK) : Cx := (cxOf CX0 P w K mg base N qual sc f cdv A outer s H E).nox
theorem fn_ok {P : Program} {w : World} {K : PySem.W.Frag} {mg : Str → Option Value} {base : Heap} {nm xn qual : Str} {params : Arguments} {bd : List Stmt} {sc : Scope} {fa : Addr} {fd : FuncData} {N ps : List Str} {k : Nat} {f : Fld α} {s : Rep β} {pre : α → Prop} {post : α → β → Prop}
    (F : FunD K xn qual params bd sc [] [] fa fd) (S : FnScope N ps sc) (hm : mg nm = some (.ref fa)) (hb : Binds K fd ps []) (hn : f.n = ps.length)
    (body : ∀ (cdv : Value) (A : Around) (outer : List Env) (st : Shared) (H : Hp) (E : XK), Room k (A.deeper (envOfC qual sc st.heap.objs.size fa cdv)) → ∀ (b : Bs) (D : Ends) (x : α), pre x → (∀ Γ y, post x y → Rt b D Γ s y) → (∀ Γ y, post x y → (∀ I, s.is I .non y) → To D.nx b Γ) →
      ∃ bs, FB f x bs ∧ Run b (bodyX P w K mg base N qual sc fa cdv A outer st H E) bd D (bs ++ List.replicate (N.length - bs.length) .un)) (hl : ps.length ≤ N.length := by decide) : Cal P w K mg base nm (k + 1) ps (spF f s pre post) := by
  refine ⟨fa, fd, F.ok S (fun vs H Q E h => ?_) (fun cdv A outer st H vs Q E hr h => ?_), hm, F.kp, hb⟩
  · obtain ⟨x, I, _, z, _⟩ := h
    rw [f.len z, hn]
  · obtain ⟨x, I, s1, z, hp, q⟩ := h
    have go : ∀ {J G : Hp}, Ok ⟨I, H, []⟩ J G → Ext I H J G := fun o => ⟨o.i0, fun a u e => o.h0 a u e (by simp), o.ih, fun a ha n => o.pr a ha n⟩
    obtain ⟨bs, fb, run⟩ := body cdv A outer st H E hr ⟨I, H, []⟩ { nx := fun _ H' => Q .non H', rt := Q } x hp (fun Γ y hy σ J G fp v o c zz => q v J G y (go o) zz hy) (fun Γ y hy hnn σ G ⟨J, fp, o, c⟩ => q .non J G y (go o) (hnn J) hy)
    refine ⟨wSs (bodyX P w K mg base N qual sc fa cdv A outer st H E) bd, PSs.nox pss_w, ?_⟩
    have l := (fb.at_ z).1
    exact run _ _ ⟨I, _, ⟨Same.refl _, fun a u e _ => e, s1, fun a z n => n, fun a z => z⟩, start_cn fb z (by rw [← l, f.len z, hn]; exact hl)⟩
end
end T

/-! ## T6 -/
/-! The typed layer: values of tests, optional lists, more comprehensions. -/
namespace T
open PySem PySem.Spec PyProof.Rows L2
section
variable {α β γ : Type} {ρ ρ' ρ'' : Bool} {bb : Bs} {X : Cx} {Γ Γ' Γ1 Γ2 Δ : List B} {e e1 e2 e3 c d tg elt iter : Expr} {es tgs ifs more : List Expr} {r : Rep α} {x : α} {pos : Pos} {is is' : List Nat} {D : Ends} {rest body : List Stmt} {scope : Scope}
theorem ev_one {op} {t : Bool} (h : Ev true X Γ e rBl t) : Ev true X Γ (.BoolOp op [e] pos) rBl t := fun b σ I H fp s k Q q => PE.w (pe_one pe_w) (h b σ I H fp s k Q q)
theorem ev_and {t u v : Bool} (h : Ev true X Γ e rBl t) (h2 : t = true → Ev true X Γ (.BoolOp .And (d :: more) pos) rBl u) (e0 : (t && u) = v) : Ev true X Γ (.BoolOp .And (e :: d :: more) pos) rBl v := fun b σ I H fp s k Q q => by
  subst e0
  refine PE.w (pe_and pe_w pe_w) (h b σ I H fp s k _ fun w I1 H1 E z => ⟨t, z, ?_⟩)
  cases t with
  | true => exact iteT (h2 rfl b σ I1 H1 fp E.ih (k.up E) Q fun w I2 H2 E2 z => q w I2 H2 (E.trans E2) z)
  | false => exact iteF (q _ I1 H1 E rfl)
theorem ev_or {t u v : Bool} (h : Ev true X Γ e rBl t) (h2 : t = false → Ev true X Γ (.BoolOp .Or (d :: more) pos) rBl u) (e0 : (t || u) = v) : Ev true X Γ (.BoolOp .Or (e :: d :: more) pos) rBl v := fun b σ I H fp s k Q q => by
  subst e0
  refine PE.w (pe_or pe_w pe_w) (h b σ I H fp s k _ fun w I1 H1 E z => ⟨t, z, ?_⟩)
  cases t with
  | true => exact iteT (q _ I1 H1 E rfl)
  | false => exact iteF (h2 rfl b σ I1 H1 fp E.ih (k.up E) Q fun w I2 H2 E2 z => q w I2 H2 (E.trans E2) z)
theorem ev_gtN {i j : Nat} (h1 : Ev true X Γ e1 rNat i) (h2 : Ev true X Γ e2 rNat j) : Ev true X Γ (.Compare e1 [.Gt] [e2] pos) rBl (decide (j < i)) := ev_cmp op_gt h1 h2 (nomark _) fun v w I H fp Q _ _ _ z1 z2 q => by
  cases z1; cases z2
  exact ⟨_, _, rfl, rfl, by
    have e : decide ((j : Int) < (i : Int)) = decide (j < i) := decide_eq_decide.mpr (by omega)
    show Q (V.bl (decide ((j : Int) < (i : Int)))) H
    rw [e]; exact q⟩
theorem ev_inTv {t : List ((Nat × Nat) × α)} {key : Nat × Nat} (hu : X.A.units + 1 < cLine) (h2 : Ev true X Γ e2 rPP key) (h1 : Ev ρ X Γ e1 (rTab r) t) (hm : behindInMarks .In e1 = false := by rfl) : Ev true X Γ (.Compare e2 [.In] [e1] pos) rBl (tget t key).isSome :=
  fun b σ I H fp hS k Q hq => PE.w (pe_cmp (pc_din hu pe_w pe_w) hm) (ev_two h2 h1 hS k fun w v I1 H1 E z2 z1 => by
    obtain ⟨p, kvs, rfl, a1, p1⟩ := z1
    obtain ⟨q, rfl, a2⟩ := rPP_of z2 (vw_in E.ih)
    have := DGet.t (vw_in E.ih _ _ a1) a2
    refine ⟨p, _, rfl, this, ?_⟩
    rcases p1.get kP_inj key with ⟨n1, n⟩ | ⟨u, y', g1, g2, g3⟩
    · rw [n1]; rw [n] at hq; exact hq _ I1 H1 E rfl
    · rw [g1]; rw [g2] at hq; exact hq _ I1 H1 E rfl)
/-! ### a thing or None -/
def rMay (r : Rep α) : Rep (Option α) where
  is := fun I v o => match o with
    | none => v = .non
    | some x => r.is I v x ∧ v ≠ .non
  up := fun {I J v x} e h => by
    cases x with
    | none => exact h
    | some x => exact ⟨r.up e h.1, h.2⟩
theorem vn_may : vNone (rMay r) Option.isNone := fun {I v x} h => by
  cases x with
  | none => exact decide_eq_true h
  | some x => exact decide_eq_false h.2
theorem Ev.may {xs : List α} (h : Ev ρ X Γ e (rLst r) xs) : Ev ρ X Γ e (rMay (rLst r)) (some xs) := fun b σ I H fp s k Q q => h b σ I H fp s k Q fun v I' H' E z => q v I' H' E ⟨z, by
  obtain ⟨p, vs, rfl, _⟩ := z
  exact fun z => nomatch z⟩
theorem ev_nonM {j : Nat} : Ev true X Γ (.Constant .none j pos) (rMay r) none := fun b σ I H fp s k Q q => PE.w pe_non (q _ I H (Ext.refl s) rfl)
theorem Ev.unmay (h : Ev ρ X Γ e (rMay r) (some x)) : Ev ρ X Γ e r x := fun b σ I H fp s k Q q => h b σ I H fp s k Q fun v I' H' E z => q v I' H' E z.1
/-- over range(n), with a test -/
theorem lc_rf {n : Nat} {p2 p3 : Pos} {f : Nat → Bool} {g : Nat → α} {Γt : Nat → List B} (own : List (Str × Nat)) (is : List Nat) (hc : X.calm = true) (hN : X.N.Nodup) (hm : X.mg "range" = none) (hE : Ev true X Γ e rNat n) (hz : n < sizeLine) (ok : blkC X.N X.env.scope scope own = true)
    (ht : ∀ x, x < n → Blk X scope fun Y => Tg Y (wipeB Γ (own.map (·.2))) tg is rNat x (Γt x)) (hf : ∀ x, x < n → Blk X scope fun Y => EvT Y (Γt x) c (f x)) (he : ∀ x, x < n → f x = true → Blk X scope fun Y => Ev true Y (Γt x) elt r (g x)) (his : ∀ j ∈ is, j ∈ own.map (·.2) := by decide)
    (hg : Gl X "range" := by rfl) (hst : starEach [e] X.env = [(false, eval e X.env)] := by rfl) (hs : ∀ x, foldedSetIterable (.Call (.Name "range" p2) [e] [] p3) X.env x = pure x := by intro _; rfl) : LcN X Γ (.ListComp elt [⟨tg, .Call (.Name "range" p2) [e] [] p3, [c], 0⟩] scope pos) r (((List.range n).filter f).map g) :=
  ⟨elt, tg, _, [c], scope, pos, own, iRng1 (tCons (wE X e) tNil), bG X scope tg, bT X scope c, bE X scope elt, rfl, hc, hN, pi_range1 hg hm (pa_cons pe_w pa_nil hst) hst, blkOk_by ok, bG_ok, fun _ _ _ _ _ => pts_one (bT_ok _ _ _ _ _), bE_ok, hs,
  fun b σ I H fp s1 k Q q => hE b σ I H fp s1 k _ fun v I1 H1 E z => by
    cases z
    have hs : sizeLine < 2 ^ 62 := by rw [sizeLine_eq]; decide
    refine ⟨_, rfl, by omega, by omega, fun Dl hD => lc_range (lo := 0) (n := n) (fun i H' => LcInv X I1 H1 r Dl (((List.range i).filter f).map g) H') ⟨I1, [], Ext.own E.ih hD, E.ih.free hD, upd_same, .nil⟩ (fun i H' hi ⟨I', vs', E', n', l', p'⟩ => ?_) (fun H' ⟨I', vs', E', n', l', p'⟩ => q Dl vs' I' H' (E.trans E') (E.hh.free hD) n' l' p')⟩
    have hle := List.length_filter_le f (List.range i)
    rw [List.length_range] at hle
    refine lc_turn (s := rNat) (x := i) (t := f i) (y := g i) (is := is) (own := own) E.ih (k.up E) hD E' n' l' p' (by rw [List.length_map]; omega) his (by show V.int (0 + (i : Int)) = V.int (i : Int); rw [Int.zero_add]) (ht i hi) (fun σ2 fp2 c2 Q' q' S0 H0 C cl fp0 => hf i hi S0 H0 C cl fp0 b σ2 I' H' fp2 E'.ih c2 Q' q') (fun z => he i hi z) rfl fun H2 h2 => ?_
    rw [List.range_succ, List.filter_append, List.map_append]
    cases q : f i with
    | true => rw [q] at h2; simpa [q] using h2
    | false => rw [q] at h2; simpa [q] using h2⟩
end
end T

/-! ## T7 -/
/-! The typed layer: dicts of lists, rows of dicts, what a def may change of its arguments. -/
namespace T
open PySem PySem.Spec PyProof.Rows L2
section
variable {α β γ δ : Type} {ρ ρ' ρ'' : Bool} {b : Bs} {X : Cx} {Γ Γ' Γ1 Γ2 Δ : List B} {e e1 e2 e3 c d tg elt iter : Expr} {es tgs ifs more : List Expr} {r : Rep α} {x : α} {pos : Pos} {is is' : List Nat} {D : Ends} {rest body : List Stmt} {scope : Scope}
/-! ### an owned thing changed -/
/-- only what is i's, and new things, are other now -/
structure Chg (H H' : Hp) (f f' : List Addr) : Prop where
  hk : ∀ a, a ∉ f → H a ≠ none → H' a = H a
  hn : ∀ a, H a ≠ none → H' a ≠ none
  hf : ∀ a ∈ f', (a ∈ f ∨ H a = none) ∧ H' a ≠ none
theorem Chg.upd {H : Hp} {f : List Addr} {q : Addr} {u : HO} (h : q ∈ f) (hf : ∀ a ∈ f, H a ≠ none) : Chg H (upd H q u) f f where
  hk := fun a n _ => upd_ne fun z => n (by rw [z]; exact h)
  hn := fun a n => by
    by_cases e : a = q
    · rw [e, upd_same]; exact fun z => nomatch z
    · rw [upd_ne e]; exact n
  hf := fun a m => ⟨.inl m, by
    by_cases e : a = q
    · rw [e, upd_same]; exact fun z => nomatch z
    · rw [upd_ne e]; exact hf a m⟩
section
variable {σ : L2.St} {I H H' : Hp} {fp : Nat → List Addr} {i : Nat} {f' : List Addr} {v : V} {o : Own α} {y : α}
theorem Chg.ok (g : Chg H H' (fp i) f') (k : Ok b I H) (c : Cn b I H σ Γ fp) (hl : ∀ a ∈ fp i, b.H0 a = none ∨ a ∈ b.W) : Ok b I H' :=
  ⟨k.i0, fun a u e w => by
    have n : a ∉ fp i := fun m => by
      rcases hl a m with z | z
      · rw [z] at e; cases e
      · exact w z
    rw [g.hk a n (k.al a (by rw [e]; exact fun z => nomatch z))]
    exact k.h0 a u e w, fun a u e => by
    have n : a ∉ fp i := fun m => by rw [(c.prv i a m).1] at e; cases e
    have h1 := k.ih _ _ e
    rw [g.hk a n (by rw [h1]; exact fun z => nomatch z)]
    exact h1, k.pr, fun a z => g.hn a (k.al a z)⟩
theorem Chg.loc (g : Chg H H' (fp i) f') (k : Ok b I H) (hl : ∀ a ∈ fp i, b.H0 a = none) : ∀ a ∈ f', b.H0 a = none := fun a m => by
  rcases (g.hf a m).1 with z | z
  · exact hl a z
  · exact new_loc (I' := I) (H' := H) k z
theorem Chg.bor (g : Chg H H' (fp i) f') (k : Ok b I H) (hl : ∀ a ∈ fp i, b.H0 a = none ∨ a ∈ b.W) : ∀ a ∈ f', b.H0 a = none ∨ a ∈ b.W := fun a m => by
  rcases (g.hf a m).1 with z | z
  · exact hl a z
  · exact .inl (new_loc (I' := I) (H' := H) k z)
theorem Chg.prv (g : Chg H H' (fp i) f') (k : Ok b I H) (c : Cn b I H σ Γ fp) : ∀ a ∈ f', I a = none ∧ H' a ≠ none := fun a m => by
  refine ⟨?_, (g.hf a m).2⟩
  rcases (g.hf a m).1 with z | z
  · exact (c.prv i a z).1
  · exact k.ih.free z
theorem Chg.dis (g : Chg H H' (fp i) f') (c : Cn b I H σ Γ fp) : ∀ j a, j ≠ i → a ∈ f' → a ∉ fp j := fun j a hj m m2 => by
  rcases (g.hf a m).1 with z | z
  · exact hj (c.dis j i a m2 z)
  · exact (c.prv j a m2).2 z
theorem Chg.oth (g : Chg H H' (fp i) f') (c : Cn b I H σ Γ fp) : ∀ j a, j ≠ i → a ∈ fp j → H' a = H a := fun j a hj m =>
  g.hk a (fun z => hj (c.dis j i a m z)) (c.prv j a m).2
theorem Chg.own (g : Chg H H' (fp i) f') (k : Ok b I H) (c : Cn b I H σ Γ fp) (hl : ∀ a ∈ fp i, b.H0 a = none) (hσ : σ[i]? = some (some v)) (ho : o.is I H' v f' y) : ∃ fp', Ok b I H' ∧ Cn b I H' σ (Γ.set i (.own o y)) fp' :=
  ⟨_, g.ok k c fun a m => .inl (hl a m), c.mutOwn hσ ho (g.loc k hl) (g.prv k c) (g.dis c) (g.oth c)⟩
theorem Chg.slf (g : Chg H H' (fp i) f') (k : Ok b I H) (c : Cn b I H σ Γ fp) (hl : ∀ a ∈ fp i, b.H0 a = none ∨ a ∈ b.W) (hσ : σ[i]? = some (some v)) (ho : o.is I H' v f' y) : ∃ fp', Ok b I H' ∧ Cn b I H' σ (Γ.set i (.slf v o y)) fp' :=
  ⟨_, g.ok k c hl, c.mutSlf hσ ho (g.bor k hl) (g.prv k c) (g.dis c) (g.oth c)⟩
theorem Chg.gho (g : Chg H H' (fp i) f') (k : Ok b I H) (c : Cn b I H σ Γ fp) (hl : ∀ a ∈ fp i, b.H0 a = none ∨ a ∈ b.W) (ho : o.is I H' v f' y) : ∃ fp', Ok b I H' ∧ Cn b I H' σ (Γ.set i (.gho v o y)) fp' :=
  ⟨_, g.ok k c hl, c.putGho ho (g.bor k hl) (g.prv k c) (g.dis c) (g.oth c)⟩
end

/-! ### dicts whose values are lists of places -/
/-- a kind of keys -/
structure Kd (κ κ' : Type) [DecidableEq κ] [DecidableEq κ'] where
  ek : κ → κ'
  inj : ∀ {a b}, ek a = ek b → a = b
  ho : List (κ' × V) → HO
  nt : ∀ {l ts}, ho l ≠ .tup ts
  inj2 : ∀ {l m}, ho l = ho m → l = m
  nl : ∀ {l ts}, ho l ≠ .lst ts
  rk : Rep κ
  isd : ∀ {H : Hp} {a : Addr} {kvs}, H a = some (ho kvs) → IsD H a
  dget : ∀ {H : Hp} {a : Addr} {kvs} {y : V} {key : κ}, H a = some (ho kvs) → rk.is H y key → DGet H a y (valV kvs (ek key))
  dput : ∀ {H : Hp} {a : Addr} {kvs} {y v : V} {key : κ}, H a = some (ho kvs) → rk.is H y key → kvs.length < sizeLine → DPut H a y v (upd H a (ho (putK kvs (ek key) v)))
def kdI : Kd Nat Key := ⟨kI, kI_inj, .dK, fun z => (nomatch z), fun z => by injection z, fun z => (nomatch z), rNat, fun h => .inl ⟨_, .inl h⟩, fun {H a kvs y key} h e => by cases e; exact DGet.k (k := kI key) h, fun {H a kvs y v key} h e z => by cases e; exact DPut.k (k := kI key) h z⟩
def kdP : Kd (Nat × Nat) (List Key) := ⟨kP, kP_inj, .dT, fun z => (nomatch z), fun z => by injection z, fun z => (nomatch z), rPP, fun h => .inr ⟨_, .inl h⟩, fun h e => by obtain ⟨q, rfl, a⟩ := rPP_of e (Same.refl _); exact DGet.t h a, fun h e z => by obtain ⟨q, rfl, a⟩ := rPP_of e (Same.refl _); exact DPut.t h a z⟩
def natV (xs : List Nat) : List V := xs.map fun (n : Nat) => V.int n
theorem natV_prd {I : Hp} (xs : List Nat) : Paired (rNat.is I) (natV xs) xs := by
  induction xs with
  | nil => exact .nil
  | cons x xs ih => exact .cons rfl ih
section
variable {κ κ' : Type} [DecidableEq κ] [DecidableEq κ']
def mlKvs (k : Kd κ κ') (t : List (κ × List Nat)) (qs : List Addr) : List (κ' × V) := List.zipWith (fun a q => (k.ek a, V.ref q)) (t.map (·.1)) qs
structure MapL (k : Kd κ κ') (H : Hp) (p : Addr) (qs : List Addr) (t : List (κ × List Nat)) : Prop where
  len : qs.length = t.length
  nd : (p :: qs).Nodup
  kn : (t.map (·.1)).Nodup
  at_ : H p = some (k.ho (mlKvs k t qs))
  ls : ∀ (i : Nat) (q : Addr) (x : κ × List Nat), qs[i]? = some q → t[i]? = some x → H q = some (.lst (natV x.2))
def repML (k : Kd κ κ') : Rep (List (κ × List Nat)) where
  is := fun I v t => ∃ p kvs, v = .ref p ∧ I p = some (k.ho kvs) ∧ Ents k.ek ((rLst rNat).is I) kvs t
  up := fun e h => by
    obtain ⟨p, kvs, e1, e2, e3⟩ := h
    exact ⟨p, kvs, e1, e _ _ e2, L2.Paired.mapP e3 fun _ _ q => ⟨q.1, (rLst rNat).up e q.2⟩⟩
theorem ml_ents {k : Kd κ κ'} {J : Hp} : ∀ {t : List (κ × List Nat)} {qs : List Addr}, qs.length = t.length → (∀ (i : Nat) (q : Addr) (x : κ × List Nat), qs[i]? = some q → t[i]? = some x → J q = some (.lst (natV x.2))) → Ents k.ek ((rLst rNat).is J) (mlKvs k t qs) t
  | [], [], _, _ => .nil
  | [], _ :: _, h, _ => by simp at h
  | _ :: _, [], h, _ => by simp at h
  | x :: t, q :: qs, h, f => .cons ⟨rfl, q, _, rfl, f 0 q x rfl rfl, natV_prd _⟩ (ml_ents (by simpa using h) fun i q' x' h1 h2 => f (i + 1) q' x' (by simpa using h1) (by simpa using h2))
def oML (k : Kd κ κ') : Own (List (κ × List Nat)) where
  is := fun _ H v f t => ∃ p qs, v = .ref p ∧ f = p :: qs ∧ MapL k H p qs t
  rep := repML k
  up := fun e g h => by
    obtain ⟨p, qs, e1, rfl, m⟩ := h
    exact ⟨p, qs, e1, rfl, m.len, m.nd, m.kn, by rw [g p (by simp)]; exact m.at_, fun i q x h1 h2 => by rw [g q (List.mem_cons_of_mem _ (List.mem_of_getElem? h1))]; exact m.ls i q x h1 h2⟩
  pub := fun h e g => by
    obtain ⟨p, qs, e1, rfl, m⟩ := h
    exact ⟨p, _, e1, by rw [g p (by simp)]; exact m.at_, ml_ents m.len fun i q x h1 h2 => by rw [g q (List.mem_cons_of_mem _ (List.mem_of_getElem? h1))]; exact m.ls i q x h1 h2⟩
  nt := fun h a m ts z => by
    obtain ⟨p, qs, e1, rfl, w⟩ := h
    rcases List.mem_cons.mp m with rfl | m
    · rw [w.at_] at z; exact k.nt (Option.some.inj z)
    · obtain ⟨i, hi⟩ := List.getElem?_of_mem m
      have hl := (List.getElem?_eq_some_iff.mp hi).1
      rw [w.ls i a _ hi (List.getElem?_eq_getElem (by rw [← w.len]; exact hl))] at z
      cases z
theorem ml_get {k : Kd κ κ'} {H : Hp} {p : Addr} {qs : List Addr} {t : List (κ × List Nat)} (m : MapL k H p qs t) (key : κ) : (valV (mlKvs k t qs) (k.ek key) = none ∧ tget t key = none) ∨ ∃ (i : Nat) (q : Addr) (x : List Nat), qs[i]? = some q ∧ t[i]? = some (key, x) ∧ valV (mlKvs k t qs) (k.ek key) = some (.ref q) ∧ tget t key = some x ∧ ∀ (j : Nat), j < i → ∀ (y : κ × List Nat), t[j]? = some y → y.1 ≠ key := by
  have : ∀ (t : List (κ × List Nat)) (qs : List Addr), qs.length = t.length → (valV (mlKvs k t qs) (k.ek key) = none ∧ tget t key = none) ∨ ∃ (i : Nat) (q : Addr) (x : List Nat), qs[i]? = some q ∧ t[i]? = some (key, x) ∧ valV (mlKvs k t qs) (k.ek key) = some (.ref q) ∧ tget t key = some x ∧ ∀ (j : Nat), j < i → ∀ (y : κ × List Nat), t[j]? = some y → y.1 ≠ key := by
    intro t
    induction t with
    | nil => intro qs h; cases qs with
      | nil => exact .inl ⟨rfl, rfl⟩
      | cons _ _ => simp at h
    | cons y t ih =>
      intro qs h
      cases qs with
      | nil => simp at h
      | cons q qs =>
        by_cases e : y.1 = key
        · refine .inr ⟨0, q, y.2, rfl, by rw [← e]; rfl, ?_, ?_, fun j hj => absurd hj (Nat.not_lt_zero _)⟩
          · show valV ((k.ek y.1, V.ref q) :: mlKvs k t qs) (k.ek key) = _
            exact valV_pos (p := (k.ek y.1, V.ref q)) (by rw [e])
          · rw [Ov.tget_cons, if_pos e]
        · have n1 : valV (mlKvs k (y :: t) (q :: qs)) (k.ek key) = valV (mlKvs k t qs) (k.ek key) := valV_neg (p := (k.ek y.1, V.ref q)) fun z => e (k.inj z)
          have n2 : tget (y :: t) key = tget t key := by rw [Ov.tget_cons, if_neg e]
          rw [n1, n2]
          rcases ih qs (by simpa using h) with z | ⟨i, q', x, h1, h2, h3, h4, h5⟩
          · exact .inl z
          · refine .inr ⟨i + 1, q', x, h1, h2, h3, h4, fun j hj y' hy' => ?_⟩
            cases j with
            | zero => simp at hy'; rw [← hy']; exact e
            | succ j => exact h5 j (by omega) y' (by simpa using hy')
  exact this t qs m.len
/-- the value of a key that is there, changed -/
theorem tput_at : ∀ {t : List (κ × List Nat)} {i : Nat} {key : κ} {x y : List Nat}, t[i]? = some (key, x) → (t.map (·.1)).Nodup → tput t key y = t.set i (key, y) := by
  intro t i key x y h nd
  have ha : (t.any fun p => decide (p.1 = key)) = true := List.any_eq_true.mpr ⟨(key, x), List.mem_of_getElem? h, decide_eq_true rfl⟩
  unfold tput
  rw [if_pos ha]
  apply List.ext_getElem?
  intro j
  rw [List.getElem?_map]
  by_cases e : i = j
  · subst e
    rw [List.getElem?_set_self (List.getElem?_eq_some_iff.mp h).1, h]
    simp
  · rw [List.getElem?_set_ne e]
    cases hj : t[j]? with
    | none => rfl
    | some p =>
      have hn : ¬ p.1 = key := fun z => by
        have h1 : (t.map (·.1))[i]? = some key := by rw [List.getElem?_map, h]; rfl
        have h2 : (t.map (·.1))[j]? = some key := by rw [List.getElem?_map, hj]; simp [z]
        exact e ((List.getElem?_inj (List.getElem?_eq_some_iff.mp h1).1 nd).mp (h1.trans h2.symm))
      simp [hn]
theorem ml_set {k : Kd κ κ'} {H : Hp} {p q : Addr} {qs : List Addr} {t : List (κ × List Nat)} {i : Nat} {key : κ} {x y : List Nat} (m : MapL k H p qs t) (h1 : qs[i]? = some q) (h2 : t[i]? = some (key, x)) : MapL k (upd H q (.lst (natV y))) p qs (tput t key y) := by
  have hpq : p ≠ q := fun z => by
    have := (List.nodup_cons.mp m.nd).1
    exact this (by rw [z]; exact List.mem_of_getElem? h1)
  rw [tput_at h2 m.kn]
  have e0 : (t.set i (key, y)).map (·.1) = t.map (·.1) := by
    rw [List.map_set]
    apply List.ext_getElem?
    intro j
    by_cases e : i = j
    · subst e
      have hl := (List.getElem?_eq_some_iff.mp h2).1
      rw [List.getElem?_set_self (by simpa using hl), List.getElem?_map, h2]; rfl
    · rw [List.getElem?_set_ne e]
  refine ⟨by rw [List.length_set]; exact m.len, m.nd, by rw [e0]; exact m.kn, ?_, fun j q' x' g1 g2 => ?_⟩
  · rw [upd_ne hpq, m.at_]
    unfold mlKvs
    rw [e0]
  · by_cases e : i = j
    · subst e
      rw [List.getElem?_set_self (List.getElem?_eq_some_iff.mp h2).1] at g2
      cases g2
      rw [h1] at g1; cases g1
      exact upd_same
    · rw [List.getElem?_set_ne e] at g2
      have hq : q' ≠ q := fun z => by
        subst z
        exact e ((List.getElem?_inj (List.getElem?_eq_some_iff.mp h1).1 (List.nodup_cons.mp m.nd).2).mp (h1.trans g1.symm))
      rw [upd_ne hq]
      exact m.ls j q' x' g1 g2
/-- a new key with a new list -/
theorem ml_new {k : Kd κ κ'} {H : Hp} {p q : Addr} {qs : List Addr} {t : List (κ × List Nat)} {key : κ} {y : List Nat} (m : MapL k H p qs t) (hn : tget t key = none) (hq : q ∉ p :: qs) (hy : H q = some (.lst (natV y))) : MapL k (upd H p (k.ho (putK (mlKvs k t qs) (k.ek key) (.ref q)))) p (qs ++ [q]) (tput t key y) := by
  have e1 : putK (mlKvs k t qs) (k.ek key) (.ref q) = mlKvs k (t ++ [(key, y)]) (qs ++ [q]) := by
    rw [putK_new]
    · unfold mlKvs
      rw [List.map_append, List.zipWith_append (by rw [List.length_map]; exact m.len.symm)]
      rfl
    · rcases ml_get m key with z | ⟨i, q', x, _, _, _, z, _⟩
      · exact z.1
      · rw [hn] at z; cases z
  have e2 : tput t key y = t ++ [(key, y)] := by
    unfold tput
    rw [Ov.tany, hn]
    rfl
  rw [e1, e2]
  have hpq : q ≠ p := fun z => hq (by simp [z])
  refine ⟨by simp [m.len], ?_, ?_, upd_same, fun j q' x' g1 g2 => ?_⟩
  · rw [← List.cons_append]
    exact List.nodup_append.mpr ⟨m.nd, by simp, fun a ha b hb => by
      simp at hb; subst hb
      exact fun z => hq (by rw [← z]; exact ha)⟩
  · rw [List.map_append]
    refine List.nodup_append.mpr ⟨m.kn, by simp, fun a ha b hb => ?_⟩
    simp only [List.map_cons, List.map_nil, List.mem_singleton] at hb
    subst hb
    intro z
    subst z
    obtain ⟨w, hw, hz⟩ := List.mem_map.mp ha
    have h0 : (t.any fun p => decide (p.1 = w.1)) = true := List.any_eq_true.mpr ⟨w, hw, decide_eq_true rfl⟩
    rw [Ov.tany, hz, hn] at h0
    cases h0
  · by_cases hj : j < t.length
    · rw [List.getElem?_append_left hj] at g2
      rw [List.getElem?_append_left (by rw [m.len]; exact hj)] at g1
      have : q' ≠ p := fun z => (List.nodup_cons.mp m.nd).1 (by rw [← z]; exact List.mem_of_getElem? g1)
      rw [upd_ne this]
      exact m.ls j q' x' g1 g2
    · rw [List.getElem?_append_right (by omega)] at g2
      rw [List.getElem?_append_right (by rw [m.len]; omega)] at g1
      have hl := m.len
      rw [hl] at g1
      have hz : j - t.length = 0 := by
        have := (List.getElem?_eq_some_iff.mp g2).1
        simp at this; omega
      rw [hz] at g1 g2
      simp at g1 g2
      subst g1 g2
      rw [upd_ne hpq]
      exact hy
end

/-! ### who holds a thing that may be changed -/
structure Hold (s : B) (o : Own α) (x : α) (mk : α → B) : Prop where
  get : ∀ {b : Bs} {I H : Hp} {w : Option (Option V)} {f : List Addr}, SlotOk b I H w s f → ∃ v, w = some (some v) ∧ o.is I H v f x ∧ ∀ a ∈ f, b.H0 a = none ∨ a ∈ b.W
  pu : ∀ {b : Bs} {I H H' : Hp} {σ : L2.St} {Γ : List B} {fp : Nat → List Addr} {i : Nat} {f' : List Addr} {v : V} {y : α}, Γ[i]? = some s → Ok b I H → Cn b I H σ Γ fp → Chg H H' (fp i) f' → σ[i]? = some (some v) → o.is I H' v f' y → ∃ fp', Ok b I H' ∧ Cn b I H' σ (Γ.set i (mk y)) fp'
theorem Hold.put {s : B} {o : Own α} {mk : α → B} (hh : Hold s o x mk) {b : Bs} {I H H' : Hp} {σ : L2.St} {Γ : List B} {fp : Nat → List Addr} {i : Nat} {f' : List Addr} {v : V} {y : α} (g : Γ[i]? = some s) (k : Ok b I H) (c : Cn b I H σ Γ fp) (ch : Chg H H' (fp i) f') (hσ : σ[i]? = some (some v)) (ho : o.is I H' v f' y) : Sg b (Γ.set i (mk y)) σ H' := by
  obtain ⟨fp', h⟩ := hh.pu g k c ch hσ ho
  exact ⟨I, fp', h⟩
theorem hold_own {o : Own α} : Hold (.own o x) o x (fun y => .own o y) where
  get := fun h => by obtain ⟨v, e, z, l⟩ := h; exact ⟨v, e, z, fun a m => .inl (l a m)⟩
  pu := fun g k c ch hσ z => by
    obtain ⟨_, _, _, l⟩ := c.get_own g
    exact ch.own k c l hσ z
theorem hold_slf {o : Own α} {v : V} : Hold (.slf v o x) o x (fun y => .slf v o y) where
  get := fun h => ⟨v, h⟩
  pu := fun g k c ch hσ z => by
    obtain ⟨e, _, l⟩ := c.get_slf g
    rw [e] at hσ
    cases hσ
    exact ch.slf k c l e z

/-! ### rows of dicts -/
def keysT (ks : List Nat) : List (Key × V) := ks.map fun k => (kI k, V.bl true)
def rKeys : Rep (List Nat) where
  is := fun I v ks => ∃ q, v = .ref q ∧ I q = some (.dK (keysT ks))
  up := fun e h => by
    obtain ⟨q, e1, e2⟩ := h
    exact ⟨q, e1, e _ _ e2⟩
structure RowsAt (H : Hp) (p : Addr) (ps : List Addr) (rows : List (List Nat)) : Prop where
  len : ps.length = rows.length
  nd : (p :: ps).Nodup
  at_ : H p = some (.lst (ps.map V.ref))
  ds : ∀ (i : Nat) (q : Addr) (ks : List Nat), ps[i]? = some q → rows[i]? = some ks → H q = some (.dK (keysT ks))
theorem rows_prd {J : Hp} : ∀ {rows : List (List Nat)} {ps : List Addr}, ps.length = rows.length → (∀ (i : Nat) (q : Addr) (ks : List Nat), ps[i]? = some q → rows[i]? = some ks → J q = some (.dK (keysT ks))) → Paired (rKeys.is J) (ps.map V.ref) rows
  | [], [], _, _ => .nil
  | [], _ :: _, h, _ => by simp at h
  | _ :: _, [], h, _ => by simp at h
  | ks :: rows, q :: ps, h, f => .cons ⟨q, rfl, f 0 q ks rfl rfl⟩ (rows_prd (by simpa using h) fun i q' k' h1 h2 => f (i + 1) q' k' (by simpa using h1) (by simpa using h2))
def oRows : Own (List (List Nat)) where
  is := fun _ H v f rows => ∃ p ps, v = .ref p ∧ f = p :: ps ∧ RowsAt H p ps rows
  rep := rLst rKeys
  up := fun e g h => by
    obtain ⟨p, ps, e1, rfl, m⟩ := h
    exact ⟨p, ps, e1, rfl, m.len, m.nd, by rw [g p (by simp)]; exact m.at_, fun i q x h1 h2 => by rw [g q (List.mem_cons_of_mem _ (List.mem_of_getElem? h1))]; exact m.ds i q x h1 h2⟩
  pub := fun h e g => by
    obtain ⟨p, ps, e1, rfl, m⟩ := h
    exact ⟨p, _, e1, by rw [g p (by simp)]; exact m.at_, rows_prd m.len fun i q x h1 h2 => by rw [g q (List.mem_cons_of_mem _ (List.mem_of_getElem? h1))]; exact m.ds i q x h1 h2⟩
  nt := fun h a m ts z => by
    obtain ⟨p, ps, e1, rfl, w⟩ := h
    rcases List.mem_cons.mp m with rfl | m
    · rw [w.at_] at z; cases z
    · obtain ⟨i, hi⟩ := List.getElem?_of_mem m
      have hl := (List.getElem?_eq_some_iff.mp hi).1
      rw [w.ds i a _ hi (List.getElem?_eq_getElem (by rw [← w.len]; exact hl))] at z
      cases z
theorem rows_set {H : Hp} {p q : Addr} {ps : List Addr} {rows : List (List Nat)} {i : Nat} {ks : List Nat} (m : RowsAt H p ps rows) (h1 : ps[i]? = some q) (hi : i < rows.length) : RowsAt (upd H q (.dK (keysT ks))) p ps (rows.set i ks) := by
  have hpq : p ≠ q := fun z => (List.nodup_cons.mp m.nd).1 (by rw [z]; exact List.mem_of_getElem? h1)
  refine ⟨by rw [List.length_set]; exact m.len, m.nd, by rw [upd_ne hpq]; exact m.at_, fun j q' k' g1 g2 => ?_⟩
  by_cases e : i = j
  · subst e
    rw [List.getElem?_set_self hi] at g2
    cases g2
    rw [h1] at g1; cases g1
    exact upd_same
  · rw [List.getElem?_set_ne e] at g2
    have hq : q' ≠ q := fun z => by
      subst z
      exact e ((List.getElem?_inj (List.getElem?_eq_some_iff.mp h1).1 (List.nodup_cons.mp m.nd).2).mp (h1.trans g1.symm))
    rw [upd_ne hq]
    exact m.ds j q' k' g1 g2
theorem keysT_put (ks : List Nat) (k : Nat) : putK (keysT ks) (kI k) (.bl true) = keysT (Ov.kins ks k) := by
  have ha : ((keysT ks).any fun kv => decide (kv.1 = kI k)) = decide (k ∈ ks) := by
    unfold keysT
    rw [List.any_map]
    induction ks with
    | nil => rfl
    | cons a ks ih =>
      rw [List.any_cons, ih]
      by_cases h : a = k
      · subst h; simp
      · have h2 : ¬ kI a = kI k := fun z => h (kI_inj z)
        have h3 : ¬ k = a := fun z => h z.symm
        simp [h2, h3]
  unfold putK Ov.kins
  rw [ha]
  by_cases h : k ∈ ks
  · rw [decide_eq_true h, if_pos rfl, if_pos h]
    unfold keysT
    rw [List.map_map]
    apply List.map_congr_left
    intro a _
    show (if kI a = kI k then (kI a, V.bl true) else (kI a, V.bl true)) = (kI a, V.bl true)
    split <;> rfl
  · rw [decide_eq_false h, if_neg (by decide), if_neg h]
    unfold keysT
    rw [List.map_append]
    rfl
theorem keysT_drop (ks : List Nat) (k : Nat) : dropK (keysT ks) (kI k) = keysT (ks.filter (· ≠ k)) := by
  unfold dropK keysT
  rw [List.filter_map]
  congr 1
  apply List.filter_congr
  intro a _
  show decide (kI a ≠ kI k) = decide (a ≠ k)
  exact decide_eq_decide.mpr ⟨fun z e => z (by rw [e]), fun z e => z (kI_inj e)⟩
/-- the dict of a row, read off the list -/
theorem row_read {σ : L2.St} {I H I' H' : Hp} {fp : Nat → List Addr} {i : Nat} {s : B} {rows : List (List Nat)} {mk : List (List Nat) → B} {j : Nat} {n : Str} {p : Pos} (c : Cn b I H σ Γ fp) (g : Γ[i]? = some s) (hh : Hold s oRows rows mk) (hj : j < rows.length) :
    ∃ (a q : Addr) (ps : List Addr), σ[i]? = some (some (.ref a)) ∧ fp i = a :: ps ∧ RowsAt H a ps rows ∧ ps[j]? = some q ∧ q ∈ fp i ∧ ∀ a ∈ fp i, b.H0 a = none ∨ a ∈ b.W := by
  obtain ⟨v, e, ⟨a, ps, rfl, ef, m⟩, l⟩ := hh.get (c.at_ i s g)
  have hjp : j < ps.length := by rw [m.len]; exact hj
  have hq : ps[j]? = some ps[j] := List.getElem?_eq_getElem hjp
  exact ⟨a, ps[j], ps, e, ef, m, hq, by rw [ef]; exact List.mem_cons_of_mem _ (List.mem_of_getElem? hq), l⟩
/-- rows[e1][e2] = True -/
theorem run_rowSet {n : Str} {p p1 p2 p3 : Pos} {kk : Nat} {s : B} {rows : List (List Nat)} {mk : List (List Nat) → B} {j k : Nat} (i : Nat) (hu : X.A.units + 1 < cLine) (g : Γ[i]? = some s) (hh : Hold s oRows rows mk) (h1 : Ev true X Γ e1 rNat j) (h2 : Ev true X Γ e2 rNat k) (hj : j < rows.length) (hz : ∀ ks ∈ rows, ks.length < 100000)
    (kt : Run b X rest D (Γ.set i (mk (Ov.ains rows j k)))) (hN : X.N[i]? = some n := by rfl) (hv : Vis X.env.scope n := by first | exact Or.inl rfl | exact Or.inr (Or.inl rfl) | exact Or.inr (Or.inr rfl))
    (hd : (n == ("__debug__" : Str)) = false := by decide) (hcd : (n == ("__classdict__" : Str)) = false := by decide) (hp : PlainIx e1 := by exact fun _ _ => rfl) (hs : swapsWith (.Constant (.bool true) kk p3) (some (.Subscript (.Subscript (.Name n p) e1 p1) e2 p2)) pos.line X.env = pure false := by rfl) :
    Run b X (.Assign [.Subscript (.Subscript (.Name n p) e1 p1) e2 p2] (.Constant (.bool true) kk p3) pos :: rest) D Γ :=
  run_of fun σ I H fp o c => by
    obtain ⟨a, q, ps, hσ, ef, m, hq, hqf, l⟩ := row_read (H' := H) (I' := I) (n := n) (p := p) c g hh hj
    refine PS.w (ps_dput hu (pe_ix ix_list (pv i hN hv hd hcd) pe_w hp) pe_w pe_bl hs) ⟨_, hσ, h1 b σ I H fp o.ih c _ fun w I1 H1 E1 z1 => ?_⟩
    cases z1
    refine ⟨a, ps.map V.ref, _, .ref q, rfl, rfl, SqL.of (E1.hh _ _ m.at_), atI_nat (by rw [List.getElem?_map, hq]; rfl), h2 b σ I1 H1 fp E1.ih (c.up E1) _ fun w2 I2 H2 E2 z2 => ?_⟩
    cases z2
    have E := E1.trans E2
    have hr : rows[j]? = some (rows.getD j []) := by rw [List.getD_eq_getElem?_getD, List.getElem?_eq_getElem hj]; rfl
    have hdq := m.ds j q _ hq hr
    have hlen : (keysT (rows.getD j [])).length < sizeLine := by
      unfold keysT
      rw [List.length_map]
      have := hz _ (List.mem_of_getElem? hr)
      rw [sizeLine_eq]; omega
    refine ⟨q, _, rfl, DPut.k (k := kI k) (E.hh _ _ hdq) hlen, ?_⟩
    rw [keysT_put]
    have c2 := c.up E
    obtain ⟨v', e', is', _⟩ := hh.get (c2.at_ i s g)
    rw [hσ] at e'; cases e'
    obtain ⟨a', ps', ea, ef', m'⟩ := is'
    cases ea
    rw [ef] at ef'; cases ef'
    exact kt _ _ (hh.put g (o.up E) c2 (Chg.upd hqf fun x mx => (c2.prv i x mx).2) hσ ⟨a, ps, rfl, ef, rows_set m' hq hj⟩)
/-- rows[e1].pop(e2) -/
theorem run_rowPop {n : Str} {p p1 p2 p3 : Pos} {s : B} {rows : List (List Nat)} {mk : List (List Nat) → B} {j k : Nat} (i : Nat) (g : Γ[i]? = some s) (hh : Hold s oRows rows mk) (h1 : Ev true X Γ e1 rNat j) (h2 : Ev true X Γ e2 rNat k) (hj : j < rows.length) (hk : k ∈ rows.getD j [])
    (kt : Run b X rest D (Γ.set i (mk (Ov.drop1 rows j k)))) (hN : X.N[i]? = some n := by rfl) (hv : Vis X.env.scope n := by first | exact Or.inl rfl | exact Or.inr (Or.inl rfl) | exact Or.inr (Or.inr rfl))
    (hd : (n == ("__debug__" : Str)) = false := by decide) (hcd : (n == ("__classdict__" : Str)) = false := by decide) (hp : PlainIx e1 := by exact fun _ _ => rfl) (hm : M1 X (.Subscript (.Name n p) e1 p1) "pop" p2 e2 p3 := by exact ⟨rfl, rfl, rfl, rfl⟩) (hs : swapsWith (.Call (.Attribute (.Subscript (.Name n p) e1 p1) "pop" p2) [e2] [] p3) none pos.line X.env = pure false := by rfl) :
    Run b X (.Expr (.Call (.Attribute (.Subscript (.Name n p) e1 p1) "pop" p2) [e2] [] p3) pos :: rest) D Γ :=
  run_of fun σ I H fp o c => by
    obtain ⟨a, q, ps, hσ, ef, m, hq, hqf, l⟩ := row_read (H' := H) (I' := I) (n := n) (p := p) c g hh hj
    refine PS.w (ps_expr (pe_dpop1 (pe_ix ix_list (pv i hN hv hd hcd) pe_w hp) pe_w hm) hs) ⟨_, hσ, h1 b σ I H fp o.ih c _ fun w I1 H1 E1 z1 => ?_⟩
    cases z1
    have hr : rows[j]? = some (rows.getD j []) := by rw [List.getD_eq_getElem?_getD, List.getElem?_eq_getElem hj]; rfl
    have hdq := m.ds j q _ hq hr
    refine ⟨a, ps.map V.ref, _, .ref q, rfl, rfl, SqL.of (E1.hh _ _ m.at_), atI_nat (by rw [List.getElem?_map, hq]; rfl), q, rfl, .inl ⟨_, .inl (E1.hh _ _ hdq)⟩, h2 b σ I1 H1 fp E1.ih (c.up E1) _ fun w2 I2 H2 E2 z2 => ?_⟩
    cases z2
    have E := E1.trans E2
    have hval : valV (keysT (rows.getD j [])) (kI k) = some (.bl true) := by
      generalize rows.getD j [] = ks at hk
      clear hr hdq
      induction ks with
      | nil => simp at hk
      | cons x ks ih =>
        by_cases e : x = k
        · exact valV_pos (p := (kI x, V.bl true)) (by rw [e])
        · have : valV (keysT (x :: ks)) (kI k) = valV (keysT ks) (kI k) := valV_neg (p := (kI x, V.bl true)) fun z => e (kI_inj z)
          rw [this]
          exact ih (by rcases List.mem_cons.mp hk with z | z; exact absurd z.symm e; exact z)
    refine ⟨_, kI k, _, E.hh _ _ hdq, rfl, hval, ?_⟩
    rw [keysT_drop]
    have c2 := c.up E
    obtain ⟨v', e', is', _⟩ := hh.get (c2.at_ i s g)
    rw [hσ] at e'; cases e'
    obtain ⟨a', ps', ea, ef', m'⟩ := is'
    cases ea
    rw [ef] at ef'; cases ef'
    exact kt _ _ (hh.put g (o.up E) c2 (Chg.upd hqf fun x mx => (c2.prv i x mx).2) hσ ⟨a, ps, rfl, ef, rows_set m' hq hj⟩)
/-- rows[e1].clear() -/
theorem run_rowClear {n : Str} {p p1 p2 p3 : Pos} {s : B} {rows : List (List Nat)} {mk : List (List Nat) → B} {j : Nat} (i : Nat) (g : Γ[i]? = some s) (hh : Hold s oRows rows mk) (h1 : Ev true X Γ e1 rNat j) (hj : j < rows.length)
    (kt : Run b X rest D (Γ.set i (mk (rows.set j [])))) (hN : X.N[i]? = some n := by rfl) (hv : Vis X.env.scope n := by first | exact Or.inl rfl | exact Or.inr (Or.inl rfl) | exact Or.inr (Or.inr rfl))
    (hd : (n == ("__debug__" : Str)) = false := by decide) (hcd : (n == ("__classdict__" : Str)) = false := by decide) (hp : PlainIx e1 := by exact fun _ _ => rfl) (hb : attributeBase (.Subscript (.Name n p) e1 p1) "clear" X.env (eval (.Subscript (.Name n p) e1 p1) X.env) = eval (.Subscript (.Name n p) e1 p1) X.env := by rfl) (hl : (p2.endLine == p3.line) = true := by rfl) (hs : swapsWith (.Call (.Attribute (.Subscript (.Name n p) e1 p1) "clear" p2) [] [] p3) none pos.line X.env = pure false := by rfl) :
    Run b X (.Expr (.Call (.Attribute (.Subscript (.Name n p) e1 p1) "clear" p2) [] [] p3) pos :: rest) D Γ :=
  run_of fun σ I H fp o c => by
    obtain ⟨a, q, ps, hσ, ef, m, hq, hqf, l⟩ := row_read (H' := H) (I' := I) (n := n) (p := p) c g hh hj
    refine PS.w (ps_expr (pe_bm0 PySem.F.plainAttrs_dict PySem.F.slot_dict_clear PySem.F.type_dict_clear mtd_clear (pe_ix ix_list (pv i hN hv hd hcd) pe_w hp) hb hl) hs) ⟨_, hσ, h1 b σ I H fp o.ih c _ fun w I1 H1 E1 z1 => ?_⟩
    cases z1
    have hr : rows[j]? = some (rows.getD j []) := by rw [List.getD_eq_getElem?_getD, List.getElem?_eq_getElem hj]; rfl
    have hdq := m.ds j q _ hq hr
    have hd1 := E1.hh _ _ hdq
    refine ⟨a, ps.map V.ref, _, .ref q, rfl, rfl, SqL.of (E1.hh _ _ m.at_), atI_nat (by rw [List.getElem?_map, hq]; rfl), ?_, q, _, rfl, rfl, hd1, ?_⟩
    · exact .inr (.inr (.inl ⟨rfl, .inl ⟨_, hd1⟩⟩))
    have c2 := c.up E1
    obtain ⟨v', e', is', _⟩ := hh.get (c2.at_ i s g)
    rw [hσ] at e'; cases e'
    obtain ⟨a', ps', ea, ef', m'⟩ := is'
    cases ea
    rw [ef] at ef'; cases ef'
    exact kt _ _ (hh.put g (o.up E1) c2 (Chg.upd hqf fun x mx => (c2.prv i x mx).2) hσ ⟨a, ps, rfl, ef, rows_set (ks := []) m' hq hj⟩)
/-- list(d), the keys of a row -/
theorem ev_listK {ks : List Nat} {p : Pos} (hc : X.calm = true) (hm : X.mg "list" = none) (h : Ev ρ X Γ e rKeys ks) (hg : Gl X "list" := by rfl) (hs : starEach [e] X.env = (false, eval e X.env) :: starEach [] X.env := by rfl) (hp : (backTo pos (starEach [] X.env)).any (·.1) = false := by rfl) : EvN X Γ (.Call (.Name "list" p) [e] [] pos) (oLst rNat) ks :=
  ev_tyN (call_list_dK hc) hg hm (by decide +kernel) (ef_one h hs) (fun vs I H fp Q s s2 z q => by
    obtain ⟨v, rfl, a, rfl, h1⟩ := z
    refine ⟨a, _, rfl, s2 _ _ h1, fun l hl => q l _ hl ?_⟩
    unfold keysT
    rw [List.map_map]
    exact natV_prd ks) (by decide) (by decide) hs hp
end
end T

/-! ## T8 -/
/-! The typed layer: defs that change an argument, that read one, that hand out a new thing. -/
namespace T
open PySem PySem.Spec PyProof.Rows L2
section
variable {α β γ δ : Type} {ρ ρ' ρ'' : Bool} {b : Bs} {X : Cx} {Γ Γ' Γ1 Γ2 Δ : List B} {e e1 e2 e3 c d tg elt iter : Expr} {es tgs ifs more : List Expr} {r : Rep α} {x : α} {pos : Pos} {is is' : List Nat} {D : Ends} {rest body : List Stmt} {scope : Scope}
theorem ef_nil : EvF true X Γ [] fNil () := fun b σ I H fp hS k Q hq => PA.w pa_nil (hq [] I H (Ext.refl hS) rfl)
/-! ### promises -/
/-- the first argument may be changed -/
def spM (o : Own α) (f : Fld β) (s : Rep δ) (pre : α → β → Prop) (post : α → β → δ → α → Prop) : Sp := fun vs H Q _ => ∃ (v : V) (ws : List V) (x : α) (y : β) (I : Hp) (fs : List Addr), vs = v :: ws ∧ Same I H ∧ o.is I H v fs x ∧ (∀ a ∈ fs, I a = none ∧ H a ≠ none) ∧ f.is I ws y ∧ pre x y ∧
  ∀ (u : V) (I' H' : Hp) (fs' : List Addr) (z : δ) (x' : α), Same I I' → Same I' H' → (∀ a, H a ≠ none → I a = none → I' a = none) → Chg H H' fs fs' → (∀ a ∈ fs', I' a = none) → o.is I' H' v fs' x' → s.is I' u z → post x y z x' → Q u H'
/-- the first argument is read -/
def spR (o : Own α) (f : Fld β) (s : Rep δ) (pre : α → β → Prop) (post : α → β → δ → Prop) : Sp := fun vs H Q _ => ∃ (v : V) (ws : List V) (x : α) (y : β) (I : Hp) (fs : List Addr), vs = v :: ws ∧ Same I H ∧ o.is I H v fs x ∧ (∀ a ∈ fs, I a = none ∧ H a ≠ none) ∧ f.is I ws y ∧ pre x y ∧
  ∀ (u : V) (I' H' : Hp) (z : δ), Ext I H I' H' → s.is I' u z → post x y z → Q u H'
/-- the first argument is read, a new thing comes back -/
def spRN (o : Own α) (f : Fld β) (s : Own δ) (pre : α → β → Prop) (post : α → β → δ → Prop) : Sp := fun vs H Q _ => ∃ (v : V) (ws : List V) (x : α) (y : β) (I : Hp) (fs : List Addr), vs = v :: ws ∧ Same I H ∧ o.is I H v fs x ∧ (∀ a ∈ fs, I a = none ∧ H a ≠ none) ∧ f.is I ws y ∧ pre x y ∧
  ∀ (u : V) (I' H' : Hp) (z : δ) (gs : List Addr), Ext I H I' H' → s.is I' H' u gs z → (∀ a ∈ gs, H a = none ∧ I' a = none ∧ H' a ≠ none) → post x y z → Q u H'
/-- a new thing comes back -/
def spN (f : Fld β) (s : Own δ) (pre : β → Prop) (post : β → δ → Prop) : Sp := fun vs H Q _ => ∃ (y : β) (I : Hp), Same I H ∧ f.is I vs y ∧ pre y ∧
  ∀ (u : V) (I' H' : Hp) (z : δ) (gs : List Addr), Ext I H I' H' → s.is I' H' u gs z → (∀ a ∈ gs, H a = none ∧ I' a = none ∧ H' a ≠ none) → post y z → Q u H'

/-! ### calls -/
theorem Hold.put2 {s : B} {o : Own α} {mk : α → B} {I I' H H' : Hp} {σ : L2.St} {fp : Nat → List Addr} {i : Nat} {f' : List Addr} {v : V} {y : α} (hh : Hold s o x mk) (g : Γ[i]? = some s) (k : Ok b I H) (cn : Cn b I H σ Γ fp) (hσ : σ[i]? = some (some v))
    (s1 : Same I I') (s2 : Same I' H') (pr : ∀ a, H a ≠ none → I a = none → I' a = none) (ch : Chg H H' (fp i) f') (hf : ∀ a ∈ f', I' a = none) (ho : o.is I' H' v f' y) : ∃ fp', Ok b I' H' ∧ Cn b I' H' σ (Γ.set i (mk y)) fp' := by
  have hx : ∀ a ∈ fp i, I' a = none := fun a m => pr a (cn.prv i a m).2 (cn.prv i a m).1
  let H1 : Hp := open Classical in fun a => if a ∈ fp i then H a else if a ∈ f' then none else H' a
  have h1a : ∀ a, a ∈ fp i → H1 a = H a := fun a m => if_pos m
  have h1b : ∀ a, a ∉ fp i → a ∈ f' → H1 a = none := fun a m m2 => (if_neg m).trans (if_pos m2)
  have h1c : ∀ a, a ∉ fp i → a ∉ f' → H1 a = H' a := fun a m m2 => (if_neg m).trans (if_neg m2)
  have E : Ext I H I' H1 := ⟨s1, fun a o' e => by
      by_cases m : a ∈ fp i
      · rw [h1a a m]; exact e
      · by_cases m2 : a ∈ f'
        · rcases (ch.hf a m2).1 with z | z
          · exact absurd z m
          · rw [z] at e; cases e
        · rw [h1c a m m2, ch.hk a m (by rw [e]; exact fun z => nomatch z)]; exact e, fun a o' e => by
      have m : a ∉ fp i := fun m => by rw [hx a m] at e; cases e
      have m2 : a ∉ f' := fun m => by rw [hf a m] at e; cases e
      rw [h1c a m m2]
      exact s2 _ _ e, pr⟩
  refine hh.pu g (k.up E) (cn.up E) ⟨fun a m n => ?_, fun a n => ?_, fun a m => ⟨?_, (ch.hf a m).2⟩⟩ hσ ho
  · by_cases m2 : a ∈ f'
    · exact absurd (h1b a m m2) n
    · exact (h1c a m m2).symm
  · by_cases m : a ∈ fp i
    · rw [h1a a m] at n; exact ch.hn a n
    · by_cases m2 : a ∈ f'
      · exact absurd (h1b a m m2) n
      · rw [h1c a m m2] at n; exact n
  · by_cases m2 : a ∈ fp i
    · exact .inl m2
    · exact .inr (h1b a m2 m)
/-- an expression that may change what the def holds -/
def EvM (b : Bs) (X : Cx) (Γ : List B) (e : Expr) (s : Rep δ) (P : δ → List B → Prop) : Prop := ∀ (σ : L2.St) (I H : Hp) (fp : Nat → List Addr), Ok b I H → Cn b I H σ Γ fp →
  ∀ Q : VK, (∀ v I' H' fp' z Γ', Ok b I' H' → Cn b I' H' σ Γ' fp' → Same I I' → s.is I' v z → P z Γ' → Q v H') → wE X e σ H Q
theorem em_fun {n fn : Str} {k0 : Nat} {ps : List Str} {o : Own α} {f : Fld β} {s : Rep δ} {pre : α → β → Prop} {post : α → β → δ → α → Prop} {y : β} {sb : B} {mk : α → B} {p p2 : Pos} (i : Nat) (F : Cal X.prog X.w X.K X.mg X.base fn k0 ps (spM o f s pre post)) (hr : Room k0 X.A) (g : Γ[i]? = some sb) (hh : Hold sb o x mk)
    (ha : EvF true X Γ es f y) (hx : pre x y) (hN : X.N[i]? = some n := by rfl) (hv : Vis X.env.scope n := by first | exact Or.inl rfl | exact Or.inr (Or.inl rfl) | exact Or.inr (Or.inr rfl)) (hd : (n == ("__debug__" : Str)) = false := by decide) (hcd : (n == ("__classdict__" : Str)) = false := by decide) (hg : Gl X fn := by rfl) (hdb : (fn == ("__debug__" : Str)) = false := by decide)
    (he : starEach (.Name n p :: es) X.env = (false, eval (.Name n p) X.env) :: starEach es X.env := by rfl) (hp : (backTo pos (starEach es X.env)).any (·.1) = false := by rfl) :
    EvM b X Γ (.Call (.Name fn p2) (.Name n p :: es) [] pos) s (fun z Γ' => ∃ x', post x y z x' ∧ Γ' = Γ.set i (mk x')) := by
  obtain ⟨fa, fd, F, hm, hk, hb⟩ := F.ex
  exact fun σ I H fp ok c Q hq => PE.w (pe_call F hr hg hm hk hb .nil pass0 (pa_cons (pv i hN hv hd hcd) pa_w he) hdb he hp) (by
    obtain ⟨v, e1, e2, e3⟩ := hh.get (c.at_ i sb g)
    refine ⟨v, e1, ha b σ I H fp ok.ih c _ fun ws I1 H1 E z => ?_⟩
    have c1 := c.up E
    obtain ⟨v', e1', e2', _⟩ := hh.get (c1.at_ i sb g)
    rw [e1] at e1'; cases e1'
    refine ⟨v, ws, x, y, I1, fp i, by rw [List.append_nil], E.ih, e2', fun a m => c1.prv i a m, z, hx, fun u I' H' fs' z' x' q1 q2 q3 q4 q5 q6 q7 q8 => ?_⟩
    obtain ⟨fp', o2, c2⟩ := hh.put2 g (ok.up E) c1 e1 q1 q2 q3 q4 q5 q6
    exact hq u I' H' fp' z' _ o2 c2 (E.ii.trans q1) q7 ⟨x', q8, rfl⟩)
theorem run_dropM {s : Rep δ} {P : δ → List B → Prop} (h : EvM b X Γ e s P) (k : ∀ z Γ', P z Γ' → Run b X rest D Γ') (hs : swapsWith e none pos.line X.env = pure false := by rfl) : Run b X (.Expr e pos :: rest) D Γ :=
  run_of fun σ I H fp o c => PS.w (ps_expr pe_w hs) (h σ I H fp o c _ fun v I' H' fp' z Γ' o2 c2 _ _ p => k z Γ' p _ _ ⟨I', fp', o2, c2⟩)
theorem run_retM {s : Rep δ} {P : δ → List B → Prop} (h : EvM b X Γ e s P) (k : ∀ z Γ', P z Γ' → Rt b D Γ' s z) : Run b X (.Return (some e) pos :: rest) D Γ :=
  run_of fun σ I H fp o c => PS.w (ps_ret pe_w) (h σ I H fp o c _ fun v I' H' fp' z Γ' o2 c2 _ r p => k z Γ' p _ _ _ _ _ o2 c2 r)
theorem run_asgM {n : Str} {p : Pos} {s : Rep δ} {P : δ → List B → Prop} (i : Nat) (hN : X.N.Nodup) (h : EvM b X Γ e s P) (k : ∀ z Γ', P z Γ' → Run b X rest D (Γ'.set i (.pub s z))) (hi : X.N[i]? = some n := by rfl) (hx : Loc X.env.scope n := by first | exact Or.inl rfl | exact Or.inr rfl) (hs : swapsWith e (some (.Name n p)) pos.line X.env = pure false := by rfl)
    (hf : X.fn n = true ∨ X.env.scope.names.lookup n = some .local := by first | exact .inl rfl | exact .inr rfl) : Run b X (.Assign [.Name n p] e pos :: rest) D Γ :=
  run_of fun σ I H fp o c => PS.w (ps_set hN hi hx pe_w hs hf) (h σ I H fp o c _ fun v I' H' fp' z Γ' o2 c2 _ r q => k z Γ' q _ _ ⟨I', _, o2, c2.put i r⟩)
/-- a tuple whose first item changes something -/
theorem em_tup {s : Rep δ} {P : δ → List B → Prop} {f : Fld β} {y : β} {x1} (h : EvM b X Γ e s P) (h2 : ∀ z Γ', P z Γ' → EvF true X Γ' es f y) (hs : starEach (e :: es) X.env = (false, eval e X.env) :: starEach es X.env := by rfl) (hl : f.n ≤ 100 := by decide) : EvM b X Γ (.Tuple (e :: es) x1 pos) (rTup (fCons s f)) (fun w Γ' => P w.1 Γ' ∧ w.2 = y) :=
  fun σ I H fp ok c Q hq => PE.w (pe_tup (pa_cons pe_w pa_w hs)) (h σ I H fp ok c _ fun v I1 H1 fp1 z Γ1 o1 c1 s1 r1 p1 => h2 z Γ1 p1 b σ I1 H1 fp1 o1.ih c1 _ fun ws I2 H2 E z2 => ⟨by rw [List.length_cons, f.len z2]; exact Nat.le_trans (Nat.succ_le_succ hl) (by decide), fun p hp => by
    have E2 : Ext I2 H2 (upd I2 p (.tup (v :: ws))) (upd H2 p (.tup (v :: ws))) := Ext.new E.ih hp
    exact hq _ _ _ fp1 (z, y) Γ1 ((o1.up E).up E2) ((c1.up E).up E2) (s1.trans (E.trans E2).ii) ⟨p, _, rfl, upd_same, v, ws, rfl, s.up (E.trans E2).ii r1, f.up E2.ii z2⟩ ⟨p1, rfl⟩⟩)
/-- who may be looked at -/
structure Peek (s : B) (o : Own α) (x : α) : Prop where
  get : ∀ {b : Bs} {I H : Hp} {w : Option (Option V)} {f : List Addr}, SlotOk b I H w s f → ∃ v, w = some (some v) ∧ o.is I H v f x
theorem peek_own {o : Own α} : Peek (.own o x) o x := ⟨fun h => by obtain ⟨v, e, z, l⟩ := h; exact ⟨v, e, z⟩⟩
theorem peek_slf {o : Own α} {v : V} : Peek (.slf v o x) o x := ⟨fun h => ⟨v, h.1, h.2.1⟩⟩
theorem peek_rd {o : Own α} {v : V} : Peek (.rd v o x) o x := ⟨fun h => ⟨v, h⟩⟩
theorem Peek.rep {s : B} {o : Own α} {I H : Hp} {σ : L2.St} {fp : Nat → List Addr} {i : Nat} (pk : Peek s o x) (c : Cn b I H σ Γ fp) (g : Γ[i]? = some s) : ∃ v, σ[i]? = some (some v) ∧ o.rep.is (vw false I H fp) v x := by
  obtain ⟨v, e1, e2⟩ := pk.get (c.at_ i s g)
  exact ⟨v, e1, o.pub e2 (vw_same c.prv) fun a m => vw_mem m⟩
theorem ev_peek {s : B} {o : Own α} {n : Str} (i : Nat) (g : Γ[i]? = some s) (pk : Peek s o x) (hN : X.N[i]? = some n := by rfl) (hv : Vis X.env.scope n := by first | exact Or.inl rfl | exact Or.inr (Or.inl rfl) | exact Or.inr (Or.inr rfl))
    (hd : (n == ("__debug__" : Str)) = false := by decide) (hcd : (n == ("__classdict__" : Str)) = false := by decide) : Ev false X Γ (.Name n pos) o.rep x := fun b σ I H fp hs k Q q => by
  obtain ⟨v, e, z⟩ := pk.rep k g
  exact PE.w (pv i hN hv hd hcd) ⟨v, e, q v I H (Ext.refl hs) z⟩
/-- a new thing, handed out -/
def RtN (b : Bs) (D : Ends) (o : Own δ) (x : δ) : Prop := ∀ (I H : Hp) (f : List Addr) (v : V), Ok b I H → o.is I H v f x → (∀ a ∈ f, b.H0 a = none ∧ I a = none ∧ H a ≠ none) → D.rt v H
theorem run_retN {o : Own δ} {y : δ} {n : Str} {p : Pos} (i : Nat) (g : Γ[i]? = some (.own o y)) (k : RtN b D o y) (hN : X.N[i]? = some n := by rfl) (hv : Vis X.env.scope n := by first | exact Or.inl rfl | exact Or.inr (Or.inl rfl) | exact Or.inr (Or.inr rfl))
    (hd : (n == ("__debug__" : Str)) = false := by decide) (hcd : (n == ("__classdict__" : Str)) = false := by decide) : Run b X (.Return (some (.Name n p)) pos :: rest) D Γ :=
  run_of fun σ I H fp ok c => by
    obtain ⟨v, e1, e2, e3⟩ := c.get_own g
    exact PS.w (ps_ret (pv i hN hv hd hcd)) ⟨v, e1, k I H (fp i) v ok e2 fun a m => ⟨e3 a m, c.prv i a m⟩⟩
/-- a new thing by a call -/
theorem ev_callN {n : Str} {k0 : Nat} {ps : List Str} {f : Fld β} {o : Own δ} {pre : β → Prop} {gg : β → δ} {y : β} {p : Pos} (F : Cal X.prog X.w X.K X.mg X.base n k0 ps (spN f o pre (fun x y => y = gg x))) (hr : Room k0 X.A) (ha : EvF true X Γ (e :: es) f y) (hx : pre y) (hg : Gl X n := by rfl) (hdb : (n == ("__debug__" : Str)) = false := by decide)
    (he : starEach (e :: es) X.env = (false, eval e X.env) :: starEach es X.env := by rfl) (hp : (backTo pos (starEach es X.env)).any (·.1) = false := by rfl) : EvN X Γ (.Call (.Name n p) (e :: es) [] pos) o (gg y) := by
  obtain ⟨fa, fd, F, hm, hk, hb⟩ := F.ex
  exact fun b σ I H fp hS k Q hq => PE.w (pe_call F hr hg hm hk hb .nil pass0 pa_w hdb he hp) (ha b σ I H fp hS k _ fun vs I1 H1 E z => by
    refine ⟨y, I1, E.ih, by rw [List.append_nil]; exact z, hx, fun u I' H' z' gs E2 z2 hgs hp => ?_⟩
    subst hp
    exact hq u I' H' gs (E.trans E2) z2 fun a m => ⟨E.hh.free (hgs a m).1, (hgs a m).2⟩)

/-! ### defs -/
theorem start_cn1 {f : Fld β} {y : β} {bs : List B} {I H : Hp} {v : V} {vs : List V} {N : List Str} {fs : List Addr} {sb : B} (h : FB f y bs) (z : f.is I vs y) (hs : SlotOk b I H (some (some v)) sb fs) (hfs : ∀ a ∈ fs, I a = none ∧ H a ≠ none) (hnt : ∀ a ∈ fs, ∀ ts, H a ≠ some (.tup ts)) (hn : (sb :: bs).length ≤ N.length) :
    Cn b I H (L2.start N (v :: vs)) ((sb :: bs) ++ List.replicate (N.length - (sb :: bs).length) .un) (fun i => if i = 0 then fs else []) := by
  obtain ⟨l, q⟩ := h.at_ z
  refine ⟨?_, fun i s e => ?_, fun i j a m m2 => ?_, fun i a m => ?_, fun i a m => ?_⟩
  · unfold L2.start
    simp only [List.length_append, List.length_map, List.length_replicate, List.length_cons] at hn ⊢
    omega
  · cases i with
    | zero =>
      have e : sb = s := by simpa using e
      subst e
      exact hs
    | succ i =>
      rw [if_neg (Nat.succ_ne_zero i)]
      have e : (bs ++ List.replicate (N.length - (sb :: bs).length) .un)[i]? = some s := by simpa using e
      have e2 : (L2.start N (v :: vs))[i + 1]? = (vs.map some ++ List.replicate (N.length - (v :: vs).length) none)[i]? := by
        unfold L2.start
        simp
      rw [e2]
      by_cases hi : i < bs.length
      · rw [List.getElem?_append_left hi] at e
        obtain ⟨γ, r, y, rfl, v, hv, hr⟩ := q i s e
        refine ⟨v, ?_, hr⟩
        rw [List.getElem?_append_left (by rw [List.length_map]; omega), List.getElem?_map, hv]
        rfl
      · rw [List.getElem?_append_right (by omega), List.getElem?_replicate] at e
        split at e
        · cases e; trivial
        · cases e
  · split at m
    · split at m2
      · omega
      · simp at m2
    · simp at m
  · split at m
    · exact hfs a m
    · simp at m
  · split at m
    · exact hnt a m
    · simp at m
section
variable {P : Program} {w : World} {K : PySem.W.Frag} {mg : Str → Option Value} {base : Heap} {nm xn qual : Str} {params : Arguments} {bd : List Stmt} {sc : Scope} {fa : Addr} {fd : FuncData} {N ps : List Str} {k : Nat}
/-- by its address -/
structure Fn1 (P : Program) (w : World) (K : PySem.W.Frag) (mg : Str → Option Value) (base : Heap) (f : Addr) (k : Nat) (ps : List Str) (sp : Sp) : Prop where
  ex : ∃ fd : FuncData, FnOk P w K mg base CX0 k f fd ps sp ∧ PySem.W.keepIn K (.ref f) = true ∧ Binds K fd ps []
theorem Fn1.cal {sp : Sp} (h : Fn1 P w K mg base fa k ps sp) (hm : mg nm = some (.ref fa)) : Cal P w K mg base nm k ps sp := by
  obtain ⟨fd, F, kp, b⟩ := h.ex
  exact ⟨fa, fd, F, hm, kp, b⟩
theorem fnN_ok {f : Fld β} {o : Own δ} {pre : β → Prop} {post : β → δ → Prop}
    (F : FunD K xn qual params bd sc [] [] fa fd) (S : FnScope N ps sc) (hb : Binds K fd ps []) (hn : f.n = ps.length)
    (body : ∀ (cdv : Value) (A : Around) (outer : List Env) (st : Shared) (H : Hp) (E : XK), Room k (A.deeper (envOfC qual sc st.heap.objs.size fa cdv)) → ∀ (b : Bs) (D : Ends) (y : β), pre y → (∀ z, post y z → RtN b D o z) →
      ∃ bs, FB f y bs ∧ Run b (bodyX P w K mg base N qual sc fa cdv A outer st H E) bd D (bs ++ List.replicate (N.length - bs.length) .un)) (hl : ps.length ≤ N.length := by decide) : Fn1 P w K mg base fa (k + 1) ps (spN f o pre post) := by
  refine ⟨fd, F.ok S (fun vs H Q E h => ?_) (fun cdv A outer st H vs Q E hr h => ?_), F.kp, hb⟩
  · obtain ⟨x, I, _, z, _⟩ := h
    rw [f.len z, hn]
  · obtain ⟨y, I, s1, z, hp, q⟩ := h
    have go : ∀ {J G : Hp}, Ok ⟨I, H, []⟩ J G → Ext I H J G := fun o => ⟨o.i0, fun a u e => o.h0 a u e (by simp), o.ih, fun a ha n => o.pr a ha n⟩
    obtain ⟨bs, fb, run⟩ := body cdv A outer st H E hr ⟨I, H, []⟩ { nx := fun _ H' => Q .non H', rt := Q } y hp (fun z' hz J G f' v ok is' hf => q v J G z' f' (go ok) is' (fun a m => hf a m) hz)
    refine ⟨wSs (bodyX P w K mg base N qual sc fa cdv A outer st H E) bd, PSs.nox pss_w, ?_⟩
    have l := (fb.at_ z).1
    exact run _ _ ⟨I, _, ⟨Same.refl _, fun a u e _ => e, s1, fun a z n => n, fun a z => z⟩, start_cn fb z (by rw [← l, f.len z, hn]; exact hl)⟩
theorem fnM_ok {o : Own α} {f : Fld β} {s : Rep δ} {pre : α → β → Prop} {post : α → β → δ → α → Prop}
    (F : FunD K xn qual params bd sc [] [] fa fd) (S : FnScope N ps sc) (hb : Binds K fd ps []) (hn : f.n + 1 = ps.length)
    (body : ∀ (cdv : Value) (A : Around) (outer : List Env) (st : Shared) (H : Hp) (E : XK), Room k (A.deeper (envOfC qual sc st.heap.objs.size fa cdv)) → ∀ (b : Bs) (D : Ends) (v : V) (x : α) (y : β), pre x y → (∀ Γ z x', Γ[0]? = some (.slf v o x') → post x y z x' → Rt b D Γ s z) → (∀ Γ z x', Γ[0]? = some (.slf v o x') → post x y z x' → (∀ I, s.is I .non z) → To D.nx b Γ) →
      ∃ bs, FB f y bs ∧ Run b (bodyX P w K mg base N qual sc fa cdv A outer st H E) bd D ((.slf v o x :: bs) ++ List.replicate (N.length - (B.slf v o x :: bs).length) .un)) (hl : ps.length ≤ N.length := by decide) : Fn1 P w K mg base fa (k + 1) ps (spM o f s pre post) := by
  refine ⟨fd, F.ok S (fun vs H Q E h => ?_) (fun cdv A outer st H vs Q E hr h => ?_), F.kp, hb⟩
  · obtain ⟨v, ws, x, y, I, fs, rfl, _, _, _, z, _⟩ := h
    rw [List.length_cons, f.len z, hn]
  · obtain ⟨v, ws, x, y, I, fs, rfl, s1, ho, hfs, z, hp, q⟩ := h
    have go : ∀ {σ : L2.St} {J G : Hp} {Γ : List B} {fp : Nat → List Addr} {x' : α}, Ok ⟨I, H, fs⟩ J G → Cn ⟨I, H, fs⟩ J G σ Γ fp → Γ[0]? = some (.slf v o x') → Same I J ∧ Same J G ∧ (∀ a, H a ≠ none → I a = none → J a = none) ∧ Chg H G fs (fp 0) ∧ (∀ a ∈ fp 0, J a = none) ∧ o.is J G v (fp 0) x' := fun {σ J G Γ fp x'} ok c g => by
      obtain ⟨e1, e2, e3⟩ := c.get_slf g
      refine ⟨ok.i0, ok.ih, ok.pr, ⟨fun a m n => ?_, ok.al, fun a m => ⟨?_, (c.prv 0 a m).2⟩⟩, fun a m => (c.prv 0 a m).1, e2⟩
      · cases e : H a with
        | none => exact absurd e n
        | some u => exact ok.h0 a u e m
      · rcases e3 a m with z | z
        · exact .inr z
        · exact .inl z
    obtain ⟨bs, fb, run⟩ := body cdv A outer st H E hr ⟨I, H, fs⟩ { nx := fun _ H' => Q .non H', rt := Q } v x y hp (fun Γ z' x' g hz σ J G fp u ok c r => by
        obtain ⟨q1, q2, q3, q4, q5, q6⟩ := go ok c g
        exact q u J G (fp 0) z' x' q1 q2 q3 q4 q5 q6 r hz) (fun Γ z' x' g hz hnn σ G ⟨J, fp, ok, c⟩ => by
        obtain ⟨q1, q2, q3, q4, q5, q6⟩ := go ok c g
        exact q .non J G (fp 0) z' x' q1 q2 q3 q4 q5 q6 (hnn J) hz)
    refine ⟨wSs (bodyX P w K mg base N qual sc fa cdv A outer st H E) bd, PSs.nox pss_w, ?_⟩
    have l := (fb.at_ z).1
    have hl2 : (B.slf v o x :: bs).length ≤ N.length := by
      rw [List.length_cons, ← l, f.len z, hn]; exact hl
    exact run _ _ ⟨I, _, ⟨Same.refl _, fun a u e _ => e, s1, fun a z n => n, fun a z => z⟩, start_cn1 fb z (sb := .slf v o x) ⟨rfl, ho, fun a m => .inr m⟩ hfs (o.nt ho) hl2⟩
theorem fnR_ok {o : Own α} {f : Fld β} {s : Rep δ} {pre : α → β → Prop} {post : α → β → δ → Prop}
    (F : FunD K xn qual params bd sc [] [] fa fd) (S : FnScope N ps sc) (hb : Binds K fd ps []) (hn : f.n + 1 = ps.length)
    (body : ∀ (cdv : Value) (A : Around) (outer : List Env) (st : Shared) (H : Hp) (E : XK), Room k (A.deeper (envOfC qual sc st.heap.objs.size fa cdv)) → ∀ (b : Bs) (D : Ends) (v : V) (x : α) (y : β), pre x y → (∀ Γ z, post x y z → Rt b D Γ s z) → (∀ Γ z, post x y z → (∀ I, s.is I .non z) → To D.nx b Γ) →
      ∃ bs, FB f y bs ∧ Run b (bodyX P w K mg base N qual sc fa cdv A outer st H E) bd D ((.rd v o x :: bs) ++ List.replicate (N.length - (B.rd v o x :: bs).length) .un)) (hl : ps.length ≤ N.length := by decide) : Fn1 P w K mg base fa (k + 1) ps (spR o f s pre post) := by
  refine ⟨fd, F.ok S (fun vs H Q E h => ?_) (fun cdv A outer st H vs Q E hr h => ?_), F.kp, hb⟩
  · obtain ⟨v, ws, x, y, I, fs, rfl, _, _, _, z, _⟩ := h
    rw [List.length_cons, f.len z, hn]
  · obtain ⟨v, ws, x, y, I, fs, rfl, s1, ho, hfs, z, hp, q⟩ := h
    have go : ∀ {J G : Hp}, Ok ⟨I, H, []⟩ J G → Ext I H J G := fun o => ⟨o.i0, fun a u e => o.h0 a u e (by simp), o.ih, fun a ha n => o.pr a ha n⟩
    obtain ⟨bs, fb, run⟩ := body cdv A outer st H E hr ⟨I, H, []⟩ { nx := fun _ H' => Q .non H', rt := Q } v x y hp (fun Γ z' hz σ J G fp u ok c r => q u J G z' (go ok) r hz) (fun Γ z' hz hnn σ G ⟨J, fp, ok, c⟩ => q .non J G z' (go ok) (hnn J) hz)
    refine ⟨wSs (bodyX P w K mg base N qual sc fa cdv A outer st H E) bd, PSs.nox pss_w, ?_⟩
    have l := (fb.at_ z).1
    have hl2 : (B.rd v o x :: bs).length ≤ N.length := by
      rw [List.length_cons, ← l, f.len z, hn]; exact hl
    exact run _ _ ⟨I, _, ⟨Same.refl _, fun a u e _ => e, s1, fun a z n => n, fun a z => z⟩, start_cn1 fb z (sb := .rd v o x) ⟨rfl, ho⟩ hfs (o.nt ho) hl2⟩
theorem fnRN_ok {o : Own α} {f : Fld β} {s : Own δ} {pre : α → β → Prop} {post : α → β → δ → Prop}
    (F : FunD K xn qual params bd sc [] [] fa fd) (S : FnScope N ps sc) (hb : Binds K fd ps []) (hn : f.n + 1 = ps.length)
    (body : ∀ (cdv : Value) (A : Around) (outer : List Env) (st : Shared) (H : Hp) (E : XK), Room k (A.deeper (envOfC qual sc st.heap.objs.size fa cdv)) → ∀ (b : Bs) (D : Ends) (v : V) (x : α) (y : β), pre x y → (∀ z, post x y z → RtN b D s z) →
      ∃ bs, FB f y bs ∧ Run b (bodyX P w K mg base N qual sc fa cdv A outer st H E) bd D ((.rd v o x :: bs) ++ List.replicate (N.length - (B.rd v o x :: bs).length) .un)) (hl : ps.length ≤ N.length := by decide) : Fn1 P w K mg base fa (k + 1) ps (spRN o f s pre post) := by
  refine ⟨fd, F.ok S (fun vs H Q E h => ?_) (fun cdv A outer st H vs Q E hr h => ?_), F.kp, hb⟩
  · obtain ⟨v, ws, x, y, I, fs, rfl, _, _, _, z, _⟩ := h
    rw [List.length_cons, f.len z, hn]
  · obtain ⟨v, ws, x, y, I, fs, rfl, s1, ho, hfs, z, hp, q⟩ := h
    have go : ∀ {J G : Hp}, Ok ⟨I, H, []⟩ J G → Ext I H J G := fun o => ⟨o.i0, fun a u e => o.h0 a u e (by simp), o.ih, fun a ha n => o.pr a ha n⟩
    obtain ⟨bs, fb, run⟩ := body cdv A outer st H E hr ⟨I, H, []⟩ { nx := fun _ H' => Q .non H', rt := Q } v x y hp (fun z' hz J G f' u ok is' hf => q u J G z' f' (go ok) is' (fun a m => hf a m) hz)
    refine ⟨wSs (bodyX P w K mg base N qual sc fa cdv A outer st H E) bd, PSs.nox pss_w, ?_⟩
    have l := (fb.at_ z).1
    have hl2 : (B.rd v o x :: bs).length ≤ N.length := by
      rw [List.length_cons, ← l, f.len z, hn]; exact hl
    exact run _ _ ⟨I, _, ⟨Same.refl _, fun a u e _ => e, s1, fun a z n => n, fun a z => z⟩, start_cn1 fb z (sb := .rd v o x) ⟨rfl, ho⟩ hfs (o.nt ho) hl2⟩
end
end
end T

/-! ## T9 -/
/-! The typed layer: sorted pairs, dicts of lists, rows made and walked, two-clause comprehensions. -/
namespace T
open PySem PySem.Spec PyProof.Rows L2
section
variable {α β γ δ : Type} {ρ ρ' ρ'' : Bool} {b : Bs} {X : Cx} {Γ Γ' Γ1 Γ2 Δ : List B} {e e1 e2 e3 c d tg elt iter : Expr} {es tgs ifs more : List Expr} {r : Rep α} {x : α} {pos : Pos} {is is' : List Nat} {D : Ends} {rest body : List Stmt} {scope : Scope}
/-! ### sorted(a list of pairs) -/
theorem leP_iff {x y : Nat × Nat} : Ov.leP x y = true ↔ x.1 < y.1 ∨ (x.1 = y.1 ∧ x.2 ≤ y.2) := by
  unfold Ov.leP
  simp [Bool.or_eq_true, Bool.and_eq_true]
theorem leP_trans (a b c : Nat × Nat) : Ov.leP a b = true → Ov.leP b c = true → Ov.leP a c = true := fun h k => by
  rw [leP_iff] at h k ⊢; omega
theorem leP_total (a b : Nat × Nat) : (Ov.leP a b || Ov.leP b a) = true := by
  rw [Bool.or_eq_true, leP_iff, leP_iff]; omega
theorem sortP_eq {xs ys : List (Nat × Nat)} (hp : ys.Perm xs) (hs : ys.Pairwise fun a b => Ov.leP a b = true) : ys = Ov.sortP xs :=
  List.Perm.eq_of_pairwise (le := fun a b => Ov.leP a b = true) (fun a b _ _ h1 h2 => by
    rw [leP_iff] at h1 h2
    exact Prod.ext (by omega) (by omega)) hs (List.pairwise_mergeSort leP_trans leP_total xs) (hp.trans (List.mergeSort_perm xs _).symm)
noncomputable def decP (I : Hp) (v : V) : Nat × Nat := open Classical in if h : ∃ p, rPP.is I v p then Classical.choose h else (0, 0)
theorem rPP_inj {I : Hp} {v : V} {p q : Nat × Nat} (h1 : rPP.is I v p) (h2 : rPP.is I v q) : p = q := by
  obtain ⟨a, vs, rfl, e1, v1, ws, rfl, z1, v2, rfl, z2⟩ := h1
  obtain ⟨a', vs', ea, e1', v1', ws', rfl, z1', v2', rfl, z2'⟩ := h2
  cases ea
  rw [e1] at e1'
  cases e1'
  cases z1; cases z2
  have h1 : (p.1 : Int) = q.1 := V.int.inj z1'
  have h2 : (p.2 : Int) = q.2 := V.int.inj z2'
  exact Prod.ext (by omega) (by omega)
theorem decP_of {I : Hp} {v : V} {p : Nat × Nat} (h : rPP.is I v p) : decP I v = p := by
  unfold decP
  rw [dif_pos ⟨p, h⟩]
  exact rPP_inj (Classical.choose_spec (⟨p, h⟩ : ∃ p, rPP.is I v p)) h
theorem prd_dec {I : Hp} : ∀ {vs : List V} {xs : List (Nat × Nat)}, Paired (rPP.is I) vs xs → vs.map (decP I) = xs
  | _, _, .nil => rfl
  | _, _, .cons h t => by rw [List.map_cons, decP_of h, prd_dec t]
theorem prd_all {I : Hp} : ∀ {vs : List V} {xs : List (Nat × Nat)}, Paired (rPP.is I) vs xs → ∀ v ∈ vs, rPP.is I v (decP I v)
  | _, _, .nil, v, m => by simp at m
  | _, _, .cons h t, v, m => by
    rcases List.mem_cons.mp m with rfl | m
    · rw [decP_of h]; exact h
    · exact prd_all t v m
theorem prd_of {I : Hp} : ∀ {vs : List V}, (∀ v ∈ vs, rPP.is I v (decP I v)) → Paired (rPP.is I) vs (vs.map (decP I))
  | [], _ => .nil
  | v :: vs, h => .cons (h v (by simp)) (prd_of fun u m => h u (by simp [m]))
theorem rPP_at {I : Hp} {v : V} {p : Nat × Nat} (h : rPP.is I v p) : ∃ t, v = .ref t ∧ I t = some (.tup [.int p.1, .int p.2]) := by
  obtain ⟨a, vs, rfl, e1, v1, ws, rfl, z1, v2, rfl, z2⟩ := h
  cases z1; cases z2
  exact ⟨a, rfl, e1⟩
theorem ev_sortP {xs : List (Nat × Nat)} {p : Pos} (hm : X.mg "sorted" = none) (h : Ev true X Γ e (rLst rPP) xs) (hg : Gl X "sorted" := by rfl) (hs : starEach [e] X.env = (false, eval e X.env) :: starEach [] X.env := by rfl) (hp : (backTo pos (starEach [] X.env)).any (·.1) = false := by rfl) : EvN X Γ (.Call (.Name "sorted" p) [e] [] pos) (oLst rPP) (Ov.sortP xs) :=
  ev_bltN cr_sortedPO hg hm (by decide +kernel) (ef_one h hs) (fun vs I H fp Q s s2 z q => by
    obtain ⟨v, rfl, a, ws, rfl, h1, h2⟩ := z
    refine ⟨a, ws, fun v => (((decP I v).1 : Int), ((decP I v).2 : Int)), rfl, SqL.of (s2 _ _ h1), fun x m => ?_, fun ys l h3 h4 hl => q l ys hl ?_⟩
    · obtain ⟨t, e, a2⟩ := rPP_at (prd_all h2 x m)
      exact ⟨t, e, s _ _ a2⟩
    · have hall : ∀ v ∈ ys, rPP.is I v (decP I v) := fun v m => prd_all h2 v (h4.perm.mem_iff.mp m)
      have e : ys.map (decP I) = Ov.sortP xs := by
        refine sortP_eq ?_ ?_
        · rw [← prd_dec h2]; exact h4.perm.map _
        · rw [List.pairwise_map]
          refine List.Pairwise.imp (fun {x y} hxy => ?_) h3
          have hxy := SrtO.lexB_no.mp hxy
          dsimp only at hxy
          rw [leP_iff]
          omega
      rw [← e]
      exact prd_of hall) (by decide) (by decide) hs hp

/-! ### dicts of lists -/
section
variable {κ κ' : Type} [DecidableEq κ] [DecidableEq κ'] {kd : Kd κ κ'} {t : List (κ × List Nat)} {key : κ} {s : B} {mk : List (κ × List Nat) → B}
theorem ev_mlT : EvN X Γ (.Dict [] [] pos) (oML kdP) [] :=
  fun b σ I H fp hS k Q hq => PE.w pe_dnewT (fun p hp => by
    refine hq _ I _ [p] (Ext.own hS hp) ⟨p, [], rfl, rfl, rfl, by simp, by simp, upd_same, fun i q x h => by simp at h⟩ fun a m => ?_
    obtain rfl : a = p := by simpa using m
    exact ⟨hp, hS.free hp, by rw [upd_same]; exact fun z => nomatch z⟩)
theorem ev_mlK : EvN X Γ (.Dict [] [] pos) (oML kdI) [] :=
  fun b σ I H fp hS k Q hq => PE.w pe_dnewK (fun p hp => by
    refine hq _ I _ [p] (Ext.own hS hp) ⟨p, [], rfl, rfl, rfl, by simp, by simp, upd_same, fun i q x h => by simp at h⟩ fun a m => ?_
    obtain rfl : a = p := by simpa using m
    exact ⟨hp, hS.free hp, by rw [upd_same]; exact fun z => nomatch z⟩)
/-- what becomes of the holder -/
theorem ml_put {σ : L2.St} {I H H' : Hp} {fp : Nat → List Addr} {i : Nat} {p : Addr} {qs qs' : List Addr} {t' : List (κ × List Nat)} (g : Γ[i]? = some s) (hh : Hold s (oML kd) t mk) (o : Ok b I H) (c : Cn b I H σ Γ fp) (hσ : σ[i]? = some (some (.ref p))) (ef : fp i = p :: qs)
    (ch : Chg H H' (p :: qs) (p :: qs')) (m : MapL kd H' p qs' t') : Sg b (Γ.set i (mk t')) σ H' := hh.put g o c (by rw [ef]; exact ch) hσ ⟨p, qs', rfl, rfl, m⟩
/-- d[key] = [], a new key -/
theorem run_mlNew {n : Str} {p p2 p3 : Pos} (i : Nat) (hu : X.A.units + 1 < cLine) (g : Γ[i]? = some s) (hh : Hold s (oML kd) t mk) (h2 : Ev true X Γ e2 kd.rk key) (hn : tget t key = none) (hz : t.length < sizeLine) (kt : Run b X rest D (Γ.set i (mk (tput t key [])))) (hN : X.N[i]? = some n := by rfl) (hv : Vis X.env.scope n := by first | exact Or.inl rfl | exact Or.inr (Or.inl rfl) | exact Or.inr (Or.inr rfl))
    (hd : (n == ("__debug__" : Str)) = false := by decide) (hcd : (n == ("__classdict__" : Str)) = false := by decide) (hs : swapsWith (.List [] p3) (some (.Subscript (.Name n p) e2 p2)) pos.line X.env = pure false := by rfl) : Run b X (.Assign [.Subscript (.Name n p) e2 p2] (.List [] p3) pos :: rest) D Γ :=
  run_of fun σ I H fp o c => by
    obtain ⟨v, hσ, ⟨pd, qs, rfl, ef, m⟩, l⟩ := hh.get (c.at_ i s g)
    refine PS.w (ps_dput hu (pv i hN hv hd hcd) pe_w (pe_lst pa_nil) hs) ⟨Nat.zero_le _, fun q hq => ⟨_, hσ, ?_⟩⟩
    have E1 : Ext I H I (upd H q (.lst [])) := Ext.own o.ih hq
    refine h2 b σ I _ fp E1.ih (c.up E1) _ fun w2 I2 H2 E2 z2 => ?_
    have E := E1.trans E2
    have c2 := c.up E
    have hqn : ∀ a, a ∈ pd :: qs → a ≠ q := fun a ma z => by
      subst z
      exact (c.prv i a (by rw [ef]; exact ma)).2 hq
    have m2 : MapL kd H2 pd qs t := by
      obtain ⟨v', e', is', _⟩ := hh.get (c2.at_ i s g)
      rw [hσ] at e'; cases e'
      obtain ⟨a', qs', ea, ef', m'⟩ := is'
      cases ea
      rw [ef] at ef'; cases ef'
      exact m'
    have hq2 : H2 q = some (.lst []) := E2.hh _ _ upd_same
    refine ⟨pd, _, rfl, kd.dput m2.at_ (kd.rk.up E2.ih z2) (by rw [show (mlKvs kd t qs).length = t.length by unfold mlKvs; rw [List.length_zipWith, List.length_map, m.len, Nat.min_self]]; exact hz), ?_⟩
    have m3 := ml_new m2 hn (q := q) (y := []) (fun z => hqn q z rfl) hq2
    refine kt _ _ ?_
    obtain ⟨v', e', is', l2⟩ := hh.get (c2.at_ i s g)
    -- the old heap is the one before the list was made
    let G : Hp := fun a => if a = q then none else H2 a
    have EG : Ext I H I2 G := by
      have hI2 : I2 q = none := by
        have h1 : (upd H q (.lst [])) q ≠ none := by rw [upd_same]; exact fun z => nomatch z
        exact E2.pr q h1 (o.ih.free hq)
      refine ⟨E.ii, fun a u e => ?_, fun a u e => ?_, E.pr⟩
      · have : a ≠ q := fun z => by rw [z, hq] at e; cases e
        show (if a = q then none else H2 a) = some u
        rw [if_neg this]; exact E.hh _ _ e
      · have : a ≠ q := fun z => by rw [z, hI2] at e; cases e
        show (if a = q then none else H2 a) = some u
        rw [if_neg this]; exact E.ih _ _ e
    refine ml_put g hh (o.up EG) (c.up EG) hσ ef ⟨fun a ma na => ?_, fun a na => ?_, fun a ma => ?_⟩ m3
    · have haq : a ≠ q := fun z => na (by show (if a = q then none else H2 a) = none; rw [if_pos z])
      rw [upd_ne (fun z => ma (by rw [z]; simp))]
      show H2 a = (if a = q then none else H2 a)
      rw [if_neg haq]
    · have haq : a ≠ q := fun z => na (by show (if a = q then none else H2 a) = none; rw [if_pos z])
      have na : (if a = q then none else H2 a) ≠ none := na
      rw [if_neg haq] at na
      by_cases z : a = pd
      · rw [z, upd_same]; exact fun z => nomatch z
      · rw [upd_ne z]; exact na
    · by_cases z : a = q
      · subst z
        refine ⟨.inr (by show (if a = a then none else H2 a) = none; rw [if_pos rfl]), ?_⟩
        rw [upd_ne (fun z => hqn pd (by simp) z.symm), hq2]
        exact fun z => nomatch z
      · have ma' : a ∈ pd :: qs := by
          rcases List.mem_cons.mp ma with w | w
          · rw [w]; simp
          · rcases List.mem_append.mp w with w | w
            · exact List.mem_cons_of_mem _ w
            · simp at w; exact absurd w z
        refine ⟨.inl ma', ?_⟩
        by_cases w : a = pd
        · rw [w, upd_same]; exact fun z => nomatch z
        · rw [upd_ne w]; exact (c2.prv i a (by rw [ef]; exact ma')).2
/-- d[key].append(v) -/
theorem run_mlApp {n : Str} {p p1 p2 p3 : Pos} {xs : List Nat} {y : Nat} (i : Nat) (hu : X.A.units + 1 < cLine) (g : Γ[i]? = some s) (hh : Hold s (oML kd) t mk) (h2 : Ev true X Γ e2 kd.rk key) (h : Ev true X Γ e rNat y) (hx : tget t key = some xs) (hz : xs.length < sizeLine) (kt : Run b X rest D (Γ.set i (mk (tput t key (xs ++ [y]))))) (hN : X.N[i]? = some n := by rfl) (hv : Vis X.env.scope n := by first | exact Or.inl rfl | exact Or.inr (Or.inl rfl) | exact Or.inr (Or.inr rfl))
    (hd : (n == ("__debug__" : Str)) = false := by decide) (hcd : (n == ("__classdict__" : Str)) = false := by decide) (hns : NoSl e2 := by exact fun _ _ => rfl)
    (hp : ∀ te : TE, PE X (.Subscript (.Name n p) e2 p1) te → PS X (.Expr (.Call (.Attribute (.Subscript (.Name n p) e2 p1) "append" p2) [e] [] p3) pos) (tDrop (tBM X.K "list" rAppend te (tCons (wE X e) tNil))) := by exact fun _ h => ps_expr (pe_bm PySem.F.plainAttrs_list PySem.F.slot_list_append PySem.F.type_list_append mt_append h (pa_cons pe_w pa_nil))) : Run b X (.Expr (.Call (.Attribute (.Subscript (.Name n p) e2 p1) "append" p2) [e] [] p3) pos :: rest) D Γ :=
  run_of fun σ I H fp o c => by
    obtain ⟨v, hσ, ⟨pd, qs, rfl, ef, m⟩, l⟩ := hh.get (c.at_ i s g)
    rcases ml_get m key with z | ⟨j, q, x, g1, g2, g3, g4, _⟩
    · rw [z.2] at hx; cases hx
    rw [hx] at g4; cases g4
    refine PS.w (hp _ (pe_dget hu (pv i hN hv hd hcd) pe_w hns)) ⟨_, hσ, h2 b σ I H fp o.ih c _ fun w I1 H1 E1 z1 => ⟨pd, .ref q, rfl, ?_, ?_⟩⟩
    · have := kd.dget (H := H1) (y := w) (key := key) (E1.hh _ _ m.at_) (kd.rk.up E1.ih z1)
      rw [g3] at this; exact this
    have hl := m.ls j q _ g1 g2
    have hql : H1 q = some (.lst (natV xs)) := E1.hh _ _ hl
    refine ⟨.inl ⟨rfl, _, SqL.of hql⟩, h b σ I1 H1 fp E1.ih (c.up E1) _ fun w2 I2 H2 E2 z2 => ?_⟩
    cases z2
    have E := E1.trans E2
    have c2 := c.up E
    have m2 : MapL kd H2 pd qs t := by
      obtain ⟨v', e', is', _⟩ := hh.get (c2.at_ i s g)
      rw [hσ] at e'; cases e'
      obtain ⟨a', qs', ea, ef', m'⟩ := is'
      cases ea
      rw [ef] at ef'; cases ef'
      exact m'
    refine ⟨q, natV xs, _, rfl, rfl, E2.hh _ _ hql, by unfold natV; rw [List.length_map]; exact hz, ?_⟩
    have e3 : natV xs ++ [V.int (y : Int)] = natV (xs ++ [y]) := by unfold natV; rw [List.map_append]; rfl
    rw [e3]
    exact kt _ _ (ml_put g hh (o.up E) c2 hσ ef (Chg.upd (List.mem_cons_of_mem _ (List.mem_of_getElem? g1)) fun a ma => (c2.prv i a (by rw [ef]; exact ma)).2) (ml_set m2 g1 g2))
end
/-- d.setdefault(key, []).append(v), keys that are places -/
theorem run_mlSetd {t : List (Nat × List Nat)} {key : Nat} {s : B} {mk : List (Nat × List Nat) → B} {n : Str} {p p1 p2 p3 p4 p5 : Pos} {y : Nat} (i : Nat) (g : Γ[i]? = some s) (hh : Hold s (oML kdI) t mk) (hm' : ∀ y, Hold (mk y) (oML kdI) y mk) (h2 : Ev true X Γ e2 rNat key) (h : Ev true X Γ e rNat y) (h' : Ev true X (Γ.set i (mk (tput t key []))) e rNat y) (hz : ((tget t key).getD []).length < sizeLine) (hz2 : t.length < sizeLine) (kt : Run b X rest D (Γ.set i (mk (Ov.dapp t key y)))) (hN : X.N[i]? = some n := by rfl) (hv : Vis X.env.scope n := by first | exact Or.inl rfl | exact Or.inr (Or.inl rfl) | exact Or.inr (Or.inr rfl))
    (hd : (n == ("__debug__" : Str)) = false := by decide) (hcd : (n == ("__classdict__" : Str)) = false := by decide) (hm : M2 X (.Name n p) "setdefault" p1 e2 (.List [] p4) p5 := by exact ⟨rfl, rfl, rfl, rfl⟩)
    (hp : ∀ te : TE, PE X (.Call (.Attribute (.Name n p) "setdefault" p1) [e2, .List [] p4] [] p5) te → PS X (.Expr (.Call (.Attribute (.Call (.Attribute (.Name n p) "setdefault" p1) [e2, .List [] p4] [] p5) "append" p2) [e] [] p3) pos) (tDrop (tBM X.K "list" rAppend te (tCons (wE X e) tNil))) := by exact fun _ h => ps_expr (pe_bm PySem.F.plainAttrs_list PySem.F.slot_list_append PySem.F.type_list_append mt_append h (pa_cons pe_w pa_nil))) : Run b X (.Expr (.Call (.Attribute (.Call (.Attribute (.Name n p) "setdefault" p1) [e2, .List [] p4] [] p5) "append" p2) [e] [] p3) pos :: rest) D Γ :=
  run_of fun σ I H fp o c => by
    obtain ⟨v, hσ, ⟨pd, qs, rfl, ef, m⟩, l⟩ := hh.get (c.at_ i s g)
    refine PS.w (hp _ (pe_dsetd (pv i hN hv hd hcd) pe_w (pe_lst pa_nil) hm)) ⟨_, hσ, pd, rfl, .inl ⟨_, .inl m.at_⟩, h2 b σ I H fp o.ih c _ fun w I1 H1 E1 z1 => ⟨Nat.zero_le _, fun q hq => ?_⟩⟩
    cases z1
    have Eq : Ext I1 H1 I1 (upd H1 q (.lst [])) := Ext.own E1.ih hq
    have E2 := E1.trans Eq
    have c2 := c.up E2
    have m2 : MapL kdI (upd H1 q (.lst [])) pd qs t := by
      obtain ⟨v', e', is', _⟩ := hh.get (c2.at_ i s g)
      rw [hσ] at e'; cases e'
      obtain ⟨a', qs', ea, ef', m'⟩ := is'
      cases ea
      rw [ef] at ef'; cases ef'
      exact m'
    have hlen : (mlKvs kdI t qs).length = t.length := by unfold mlKvs; rw [List.length_zipWith, List.length_map, m.len, Nat.min_self]
    refine ⟨mlKvs kdI t qs, kI key, m2.at_, rfl, by rw [hlen]; exact hz2, fun u hu => ?_, fun hnone => ?_⟩
    · rcases ml_get m2 key with z | ⟨j, q', x, g1, g2, g3, g4, _⟩
      · have z1 : valV (mlKvs kdI t qs) (kI key) = none := z.1
        rw [z1] at hu; cases hu
      · have g3 : valV (mlKvs kdI t qs) (kI key) = some (.ref q') := g3
        rw [g3] at hu; cases hu
        have hl := m2.ls j q' _ g1 g2
        refine ⟨.inl ⟨rfl, _, SqL.of hl⟩, h b σ I1 _ fp Eq.ih c2 _ fun w2 I3 H3 E3 z2 => ?_⟩
        cases z2
        have c3 := c2.up E3
        have m3 : MapL kdI H3 pd qs t := by
          obtain ⟨v', e', is', _⟩ := hh.get (c3.at_ i s g)
          rw [hσ] at e'; cases e'
          obtain ⟨a', qs', ea, ef', m'⟩ := is'
          cases ea
          rw [ef] at ef'; cases ef'
          exact m'
        rw [g4] at hz
        refine ⟨q', natV x, _, rfl, rfl, E3.hh _ _ hl, by unfold natV; rw [List.length_map]; exact hz, ?_⟩
        have e3 : natV x ++ [V.int (y : Int)] = natV (x ++ [y]) := by unfold natV; rw [List.map_append]; rfl
        rw [e3]
        have e4 : Ov.dapp t key y = tput t key (x ++ [y]) := by unfold Ov.dapp; rw [g4]; rfl
        rw [e4] at kt
        exact kt _ _ (ml_put g hh (o.up (E2.trans E3)) c3 hσ ef (Chg.upd (List.mem_cons_of_mem _ (List.mem_of_getElem? g1)) fun a ma => (c3.prv i a (by rw [ef]; exact ma)).2) (ml_set m3 g1 g2))
    · have hnn : tget t key = none := by
        rcases ml_get m2 key with z | ⟨j, q', x, g1, g2, g3, g4, _⟩
        · exact z.2
        · have g3 : valV (mlKvs kdI t qs) (kI key) = some (.ref q') := g3
          rw [g3] at hnone; cases hnone
      have hqn : ∀ a, a ∈ pd :: qs → a ≠ q := fun a ma z => by
        subst z
        exact ((c.up E1).prv i a (by rw [ef]; exact ma)).2 hq
      -- the state in which the dict has the new key
      have hpq : pd ≠ q := hqn pd (by simp)
      have m3 := ml_new m2 hnn (q := q) (y := []) (fun z => hqn q z rfl) upd_same
      obtain ⟨fp4, o4, c4⟩ : ∃ fp', Ok b I1 (upd (upd H1 q (.lst [])) pd (kdI.ho (putK (mlKvs kdI t qs) (kdI.ek key) (.ref q)))) ∧ Cn b I1 (upd (upd H1 q (.lst [])) pd (kdI.ho (putK (mlKvs kdI t qs) (kdI.ek key) (.ref q)))) σ (Γ.set i (mk (tput t key []))) fp' := by
        have ch : Chg H1 (upd (upd H1 q (.lst [])) pd (kdI.ho (putK (mlKvs kdI t qs) (kdI.ek key) (.ref q)))) (pd :: qs) (pd :: (qs ++ [q])) := by
          refine ⟨fun a ma na => ?_, fun a na => ?_, fun a ma => ?_⟩
          · have haq : a ≠ q := fun z => na (by rw [z]; exact hq)
            rw [upd_ne (fun z => ma (by rw [z]; simp)), upd_ne haq]
          · have haq : a ≠ q := fun z => na (by rw [z]; exact hq)
            by_cases z : a = pd
            · rw [z, upd_same]; exact fun z => nomatch z
            · rw [upd_ne z, upd_ne haq]; exact na
          · by_cases z : a = q
            · subst z
              refine ⟨.inr hq, ?_⟩
              rw [upd_ne (fun z => hpq z.symm), upd_same]
              exact fun z => nomatch z
            · have ma' : a ∈ pd :: qs := by
                rcases List.mem_cons.mp ma with w | w
                · rw [w]; simp
                · rcases List.mem_append.mp w with w | w
                  · exact List.mem_cons_of_mem _ w
                  · simp at w; exact absurd w z
              refine ⟨.inl ma', ?_⟩
              by_cases w : a = pd
              · rw [w, upd_same]; exact fun z => nomatch z
              · rw [upd_ne w, upd_ne z]; exact ((c.up E1).prv i a (by rw [ef]; exact ma')).2
        exact hh.pu (f' := pd :: (qs ++ [q])) (H := H1) g (o.up E1) (c.up E1) (by rw [ef]; exact ch) hσ ⟨pd, _, rfl, rfl, m3⟩
      have hil : i < Γ.length := (List.getElem?_eq_some_iff.mp g).1
      have g4 : (Γ.set i (mk (tput t key [])))[i]? = some (mk (tput t key [])) := List.getElem?_set_self hil
      have hq4 : (upd (upd H1 q (.lst [])) pd (kdI.ho (putK (mlKvs kdI t qs) (kdI.ek key) (.ref q)))) q = some (.lst []) := by rw [upd_ne (fun z => hpq z.symm), upd_same]
      refine ⟨.inl ⟨rfl, _, SqL.of hq4⟩, h' b σ I1 _ fp4 o4.ih c4 _ fun w2 I3 H3 E3 z2 => ?_⟩
      cases z2
      have c3 := c4.up E3
      obtain ⟨v', e', ⟨a', qs', ea, ef', m'⟩, _⟩ := (hm' (tput t key [])).get (c3.at_ i _ g4)
      rw [hσ] at e'; cases e'
      cases ea
      rcases ml_get m' key with z | ⟨j, q', x, g1, g2, g3, g5, _⟩
      · rw [Ov.tget_tput_same] at z; cases z.2
      · have e5 : q' = q := by
          have d1 := m'.at_
          have d2 : H3 pd = some (kdI.ho (putK (mlKvs kdI t qs) (kdI.ek key) (.ref q))) := E3.hh _ _ upd_same
          rw [d2] at d1
          have d3 := kdI.inj2 (Option.some.inj d1)
          rw [← d3, valV_put, if_pos rfl] at g3
          cases g3; rfl
        subst e5
        rw [Ov.tget_tput_same] at g5
        cases g5
        refine ⟨q', [], _, rfl, rfl, E3.hh _ _ hq4, by rw [sizeLine_eq]; decide, ?_⟩
        have e4 : Ov.dapp t key y = tput (tput t key []) key [y] := by
          unfold Ov.dapp
          rw [hnn]
          have a0 : tput t key [] = t ++ [(key, [])] := by unfold tput; rw [Ov.tany, hnn]; rfl
          have a1 : tput t key ((none : Option (List Nat)).getD [] ++ [y]) = t ++ [(key, [y])] := by unfold tput; rw [Ov.tany, hnn]; rfl
          rw [a1, tput_at (x := []) (i := t.length) (by rw [a0]; simp) m'.kn, a0]
          simp
        rw [e4] at kt
        have sg := ml_put g4 (hm' _) (o4.up E3) c3 hσ ef' (Chg.upd (List.mem_cons_of_mem _ (List.mem_of_getElem? g1)) fun a ma => (c3.prv i a (by rw [ef']; exact ma)).2) (ml_set (y := [y]) m' g1 g2)
        rw [List.set_set] at sg
        exact kt _ _ sg
end
end T

/-! ## T10 -/
/-! The typed layer: rows made, rows walked under a lock, two-clause comprehensions, get with a new list. -/
namespace T
open PySem PySem.Spec PyProof.Rows L2
section
variable {α β γ δ : Type} {ρ ρ' ρ'' : Bool} {b : Bs} {X : Cx} {Γ Γ' Γ1 Γ2 Δ : List B} {e e1 e2 e3 c d tg tg1 elt iter iter1 : Expr} {es tgs ifs more : List Expr} {r : Rep α} {x : α} {pos : Pos} {is is' : List Nat} {D : Ends} {rest body : List Stmt} {scope : Scope}
/-- n new dicts -/
theorem run_rowsNew {n y : Str} {p p2 p3 p4 p5 pos2 : Pos} {m : Nat} (i j : Nat) (hc : X.calm = true) (hNd : X.N.Nodup) (hm : X.mg "range" = none) (hE : Ev true X Γ e rNat m) (hz : m < 100000) (ok : blkC X.N X.env.scope scope [(y, j)] = true) (k : Run b X rest D (Γ.set i (.own oRows (List.replicate m []))))
    (hg0 : ∀ (s : Shared) (H : Hp) (C : Addr) (cl : List (Str × Addr)) (fp : List Addr), PG (X.blk s H scope (compEnvC scope cl C X.env) fp) (.Name y p4) (gName j))
    (hi : X.N[i]? = some n := by rfl) (hx : X.env.scope.names.lookup n = some .local := by rfl) (hg : Gl X "range" := by rfl) (hst : starEach [e] X.env = [(false, eval e X.env)] := by rfl)
    (hsw : swapsWith (.ListComp (.Dict [] [] p5) [⟨.Name y p4, .Call (.Name "range" p2) [e] [] p3, [], 0⟩] scope pos2) (some (.Name n p)) pos.line X.env = pure true := by exact sw_true rfl rfl rfl (by decide +kernel)) :
    Run b X (.Assign [.Name n p] (.ListComp (.Dict [] [] p5) [⟨.Name y p4, .Call (.Name "range" p2) [e] [] p3, [], 0⟩] scope pos2) pos :: rest) D Γ :=
  run_of fun σ I H fp o c => PS.w (ps_setLc (own := [(y, j)]) hc hNd hi hx hsw (pi_range1 hg hm (pa_cons pe_w pa_nil hst) hst) (blkOk_by ok) hg0 (fun _ _ _ _ _ => pts_nil) (fun _ _ _ _ _ => pe_dnewK)) (hE b σ I H fp o.ih c _ fun v I1 H1 E z => by
    cases z
    refine ⟨_, rfl, by omega, by omega, fun Dl hD => lc_range (lo := 0) (n := m) (fun i H' => ∃ ps : List Addr, ps.length = i ∧ (Dl :: ps).Nodup ∧ H' Dl = some (.lst (ps.map V.ref)) ∧ (∀ q ∈ ps, H' q = some (.dK []) ∧ H1 q = none) ∧ Same H1 H')
      ⟨[], rfl, by simp, upd_same, by simp, same_upd hD⟩ ?_ ?_⟩
    · rintro i H' hi' ⟨ps, hl, nd, hDl, hq, s1⟩
      refine ⟨?_, ?_⟩
      · have : wipe ((wipe σ [j]).set j (some (.int (0 + (i : Int))))) [j] = wipe (wipe σ [j]) [j] := wipe_same (by rw [List.length_set]) fun l hl => List.getElem?_set_ne fun z => hl (by simp [z])
        show wipe ((wipe σ [j]).set j (some (.int (0 + (i : Int))))) [j] = wipe σ [j]
        rw [this, wipe_wipe]
      · dsimp only [tYes]
        rw [if_pos rfl]
        intro q hqn
        refine ⟨ps.map V.ref, ?_, ?_, ?_⟩
        · rw [upd_ne (ne_of_none hDl hqn)]; exact hDl
        · rw [List.length_map, hl, sizeLine_eq]; omega
        · have hqD : q ≠ Dl := fun z => by rw [z, hDl] at hqn; cases hqn
          have hqp : q ∉ ps := fun m => by rw [(hq q m).1] at hqn; cases hqn
          refine ⟨ps ++ [q], by simp [hl], ?_, ?_, fun a m => ?_, fun a u e => ?_⟩
          · rw [← List.cons_append]
            refine List.nodup_append.mpr ⟨nd, by simp, fun a ha c hc => ?_⟩
            simp at hc; subst hc
            rcases List.mem_cons.mp ha with z | z
            · rw [z]; exact fun z => hqD z.symm
            · exact fun w => hqp (by rw [← w]; exact z)
          · rw [upd_same, List.map_append]; rfl
          · rcases List.mem_append.mp m with m | m
            · refine ⟨?_, (hq a m).2⟩
              have h1 : a ≠ Dl := fun z => (List.nodup_cons.mp nd).1 (by rw [← z]; exact m)
              rw [upd_ne h1, upd_ne (ne_of_none (hq a m).1 hqn)]
              exact (hq a m).1
            · simp at m; subst m
              rw [upd_ne hqD, upd_same]
              exact ⟨rfl, s1.free hqn⟩
          · have h1 : a ≠ Dl := fun z => by rw [z, hD] at e; cases e
            have h2 := s1 _ _ e
            rw [upd_ne h1, upd_ne (ne_of_none h2 hqn)]
            exact h2
    · rintro H' ⟨ps, hl, nd, hDl, hq, s1⟩
      have o1 := o.up E
      have c1 := c.up E
      have hfr : ∀ a ∈ Dl :: ps, H1 a = none := fun a m => by
        rcases List.mem_cons.mp m with z | z
        · rw [z]; exact hD
        · exact (hq a z).2
      have hno : ∀ a ∈ Dl :: ps, H' a ≠ none := fun a m => by
        rcases List.mem_cons.mp m with z | z
        · rw [z, hDl]; exact fun z => nomatch z
        · rw [(hq a z).1]; exact fun z => nomatch z
      have E2 : Ext I1 H1 I1 H' := ⟨Same.refl _, s1, o1.ih.trans s1, fun _ _ n => n⟩
      refine k _ _ ⟨I1, _, o1.up E2, (c1.up E2).putOwn i (o := oRows) (x := List.replicate m []) (f := Dl :: ps) ⟨Dl, ps, rfl, rfl, by rw [List.length_replicate]; exact hl, nd, hDl, fun i q ks h1 h2 => ?_⟩ (fun a m => new_loc (I' := I1) (H' := H1) o1 (hfr a m)) (fun a m => ⟨o1.ih.free (hfr a m), hno a m⟩) fun l a _ m m2 => (c1.prv l a m2).2 (hfr a m)⟩
      rw [List.getElem?_replicate] at h2
      split at h2
      · cases h2; exact (hq q (List.mem_of_getElem? h1)).1
      · cases h2)
/-- [.. for k in rows[e1]], the row locked -/
theorem ev_lcRow {n : Str} {p p1 : Pos} {s : B} {rows : List (List Nat)} {mk : List (List Nat) → B} {j : Nat} {g : Nat → α} {Γt : Nat → List B} (i : Nat) (own : List (Str × Nat)) (is : List Nat) (hc : X.calm = true) (hNd : X.N.Nodup) (hgt : Γ[i]? = some s) (hh : Hold s oRows rows mk) (h1 : Ev true X (Γ.set i .un) e1 rNat j) (hj : j < rows.length) (hz : (rows.getD j []).length < 100000)
    (ok : blkC X.N X.env.scope scope own = true) (ht : ∀ x ∈ rows.getD j [], Blk X scope fun Y => Tg Y (wipeB (Γ.set i .un) (own.map (·.2))) tg is rNat x (Γt x)) (he : ∀ x ∈ rows.getD j [], Blk X scope fun Y => Ev true Y (Γt x) elt r (g x)) (his : ∀ j ∈ is, j ∈ own.map (·.2) := by decide)
    (hN : X.N[i]? = some n := by rfl) (hv : Vis X.env.scope n := by first | exact Or.inl rfl | exact Or.inr (Or.inl rfl) | exact Or.inr (Or.inr rfl))
    (hd : (n == ("__debug__" : Str)) = false := by decide) (hcd : (n == ("__classdict__" : Str)) = false := by decide) (hp : PlainIx e1 := by exact fun _ _ => rfl) (hs : ∀ x, foldedSetIterable (.Subscript (.Name n p) e1 p1) X.env x = pure x := by intro _; rfl) :
    EvN X Γ (.ListComp elt [⟨tg, .Subscript (.Name n p) e1 p1, [], 0⟩] scope pos) (oLst r) ((rows.getD j []).map g) := fun b σ I H fp hS c Q hQ => by
  obtain ⟨a, q, ps, hσ, ef, m, hq, hqf, l⟩ := row_read (H' := H) (I' := I) (n := n) (p := p) c hgt hh hj
  have hr : rows[j]? = some (rows.getD j []) := by rw [List.getD_eq_getElem?_getD, List.getElem?_eq_getElem hj]; rfl
  have hdq := m.ds j q _ hq hr
  have hIq : I q = none := (c.prv i q hqf).1
  have haq : a ≠ q := fun z => (List.nodup_cons.mp m.nd).1 (by rw [z]; exact List.mem_of_getElem? hq)
  refine PE.w (pe_lock (pe_lc hc hNd (pi_keys (pe_ix ix_list (pv i hN hv hd hcd) pe_w hp)) (blkOk_by ok) bG_ok (fun _ _ _ _ _ => pts_nil) bE_ok hs)) ⟨q, _, hdq, trivial, fun od => ?_⟩
  have sL : Same I (upd H q (.frz od (.dK (keysT (rows.getD j []))))) := fun x u e => by
    rw [upd_ne (fun z => by rw [z, hIq] at e; cases e)]; exact hS _ _ e
  have cL : Cn b I (upd H q (.frz od (.dK (keysT (rows.getD j []))))) σ (Γ.set i .un) (fun l => if l = i then [] else fp l) := by
    refine ⟨by rw [List.length_set, c.len], fun l s' e => ?_, fun l k x h1 h2 => ?_, fun l x h1 => ?_, fun l x h1 => ?_⟩
    · by_cases e2 : i = l
      · subst e2
        rw [List.getElem?_set_self (List.getElem?_eq_some_iff.mp hgt).1] at e
        cases e; trivial
      · rw [List.getElem?_set_ne e2] at e
        rw [if_neg (fun z => e2 z.symm)]
        have q2 := c.at_ l s' e
        have hk' : ∀ x ∈ fp l, (upd H q (.frz od (.dK (keysT (rows.getD j []))))) x = H x := fun x mx => upd_ne fun z => e2 (c.dis l i x mx (by rw [z]; exact hqf)).symm
        cases s' with
        | un => exact q2
        | eq v => exact q2
        | pub r x => exact q2
        | own w x => obtain ⟨v, e1, e2, e3⟩ := q2; exact ⟨v, e1, w.up (Same.refl _) hk' e2, e3⟩
        | slf v w x => obtain ⟨e1, e2, e3⟩ := q2; exact ⟨e1, w.up (Same.refl _) hk' e2, e3⟩
        | fact p => exact q2
        | gho v w x => obtain ⟨e2, e3⟩ := q2; exact ⟨w.up (Same.refl _) hk' e2, e3⟩
        | gpb v r x => exact q2
        | rd v w x => obtain ⟨e1, e2⟩ := q2; exact ⟨e1, w.up (Same.refl _) hk' e2⟩
    · split at h1
      · simp at h1
      · split at h2
        · simp at h2
        · exact c.dis l k x h1 h2
    · split at h1
      · simp at h1
      · rename_i ne
        rw [upd_ne fun z => ne (c.dis l i x h1 (by rw [z]; exact hqf))]
        exact c.prv l x h1
    · split at h1
      · simp at h1
      · rename_i ne
        rw [upd_ne fun z => ne (c.dis l i x h1 (by rw [z]; exact hqf))]
        exact c.nt l x h1
  refine ⟨_, hσ, h1 b σ I _ _ sL cL _ fun w I1 H1 E1 z1 => ?_⟩
  cases z1
  have hq1 : H1 q = some (.frz od (.dK (keysT (rows.getD j [])))) := E1.hh _ _ upd_same
  refine ⟨a, ps.map V.ref, _, .ref q, rfl, rfl, SqL.of (E1.hh _ _ (by rw [upd_ne haq]; exact m.at_)), atI_nat (by rw [List.getElem?_map, hq]; rfl), q, od, rfl, .inl ⟨_, hq1, fun Dl hD => ?_⟩⟩
  have hl : (keysT (rows.getD j [])).length = (rows.getD j []).length := by unfold keysT; rw [List.length_map]
  refine lc_it walk_keys (fun i H' => LcInv X I1 H1 r Dl (((rows.getD j []).take i).map g) H') ⟨I1, [], Ext.own E1.ih hD, E1.ih.free hD, upd_same, by rw [List.take_zero]; exact .nil⟩ (fun i H' _ ⟨I', vs', E', _, _, _⟩ => E'.hh _ _ hq1) ?_ ?_
  · rintro i' v H' H'' hi' ⟨I', vs', E', n', l', p'⟩ ⟨rfl, k, v', hk, rfl⟩
    rw [hl] at hi'
    have hx : (rows.getD j [])[i']? = some (rows.getD j [])[i'] := List.getElem?_eq_getElem hi'
    have hm := List.mem_of_getElem? hx
    have ek : k = kI (rows.getD j [])[i'] := by
      unfold keysT at hk
      rw [List.getElem?_map, hx] at hk
      cases hk; rfl
    subst ek
    refine lc_turn (s := rNat) (x := (rows.getD j [])[i']) (t := true) (y := g (rows.getD j [])[i']) (is := is) (own := own) E1.ih (cL.up E1) hD E' n' l' p' (by rw [List.length_map, List.length_take, sizeLine_eq]; omega) his rfl (ht _ hm) (fun σ2 fp2 c2 Q' q' => tYes_ok E'.ih q') (fun _ => he _ hm) rfl fun H2 h2 => ?_
    rw [List.take_add_one, hx, List.map_append]
    rw [if_pos rfl] at h2
    exact h2
  · rintro H' ⟨I', vs', E', n', l', p'⟩
    rw [hl, List.take_length] at p'
    have E := E1.trans E'
    have hIq' : I' q = none := E.pr q (by rw [upd_same]; exact fun z => nomatch z) hIq
    have hqD : Dl ≠ q := fun z => by rw [z, hq1] at hD; cases hD
    refine ⟨E'.hh _ _ hq1, ?_⟩
    refine hQ _ I' _ [Dl] ⟨E.ii, fun x u e => ?_, fun x u e => ?_, fun x hx n => ?_⟩ ⟨Dl, vs', rfl, rfl, by rw [upd_ne hqD]; exact l', p'⟩ fun x mx => ?_
    · by_cases z : x = q
      · rw [z, upd_same]; rw [z, hdq] at e; exact e
      · rw [upd_ne z]; exact E.hh _ _ (by rw [upd_ne z]; exact e)
    · rw [upd_ne (fun z => by rw [z, hIq'] at e; cases e)]; exact E.ih _ _ e
    · refine E.pr x ?_ n
      by_cases z : x = q
      · rw [z, upd_same]; exact fun z => nomatch z
      · rw [upd_ne z]; exact hx
    · obtain rfl : x = Dl := by simpa using mx
      refine ⟨?_, n', by rw [upd_ne hqD, l']; exact fun z => nomatch z⟩
      have := E1.hh.free hD
      rw [upd_ne hqD] at this
      exact this
/-- [.. for x in xs for z in zs(x)] -/
theorem ev_lc2 {s : Rep β} {s1 : Rep γ} {xs : List β} {zs : β → List γ} {g : β → γ → α} {Γt : β → List B} {Γ2 : β → γ → List B} (own : List (Str × Nat)) (vs1 : List Nat) (is is1 : List Nat) (hc : X.calm = true) (hN : X.N.Nodup) (hE : EvL X Γ iter s xs) (hz : (xs.flatMap fun x => (zs x).map (g x)).length < sizeLine) (ok : blkC X.N X.env.scope scope own = true)
    (ht : ∀ x ∈ xs, Blk X scope fun Y => Tg Y (wipeB Γ (own.map (·.2))) tg is s x (Γt x)) (hi1 : ∀ x ∈ xs, Blk X scope fun Y => Ev true Y (Γt x) iter1 (rLst s1) (zs x)) (ht1 : ∀ x ∈ xs, ∀ z ∈ zs x, Blk X scope fun Y => Tg Y (wipeB (Γt x) vs1) tg1 is1 s1 z (Γ2 x z)) (he : ∀ x ∈ xs, ∀ z ∈ zs x, Blk X scope fun Y => Ev true Y (Γ2 x z) elt r (g x z))
    (hv1 : ∀ i ∈ vs1, i ∈ own.map (·.2) := by decide) (his : ∀ j ∈ is, j ∈ own.map (·.2) := by decide) (his1 : ∀ j ∈ is1, j ∈ vs1 := by decide)
    (hs : ∀ x, foldedSetIterable iter X.env x = pure x := by intro _; rfl) (hs1 : ∀ env x, foldedSetIterable iter1 env x = pure x := by intro _ _; rfl) :
    EvN X Γ (.ListComp elt [⟨tg, iter, [], 0⟩, ⟨tg1, iter1, [], 0⟩] scope pos) (oLst r) (xs.flatMap fun x => (zs x).map (g x)) := fun b σ I H fp hS c Q hQ => by
  refine PE.w (pe_lc2 (wi1 := iList X.K (bE X scope iter1)) (vs1 := vs1) hc hN (pi_list pe_w) (blkOk_by ok) hv1 bG_ok (fun _ _ _ _ _ => pts_nil) (fun s0 H0 C cl fp0 => pi_list (bE_ok s0 H0 C cl fp0)) bG_ok (fun _ _ _ _ _ => pts_nil) bE_ok hs hs1) (hE b σ I H fp hS c _ fun p vs I1 H1 E a1 p1 => ⟨p, rfl, ⟨vs, SqL.of a1⟩, fun Dl hD => ?_⟩)
  have c1 := c.up E
  have key : ∃ W : Nat → Nat → Hp → Prop, (∃ m, W 0 m (upd H1 Dl (.lst []))) ∧ ∀ i m H', W i m H' → ((Itl X.K p).stop i H' ∧ Q (.ref Dl) H') ∨ ((Itl X.K p).go i H' ∧ ∃ Nx : Hp → Prop, (∀ H'', Nx H'' → ∃ m', m' < m ∧ W (i + 1) m' H'') ∧ ∀ v H'', (Itl X.K p).yld i H' v H'' → bG X scope tg v (wipe σ (own.map (·.2))) H'' fun σ2 H2 => wipe σ2 (own.map (·.2)) = wipe σ (own.map (·.2)) ∧ tYes σ2 H2 fun b H3 =>
      if b = true then iList X.K (bE X scope iter1) σ2 H3 fun J1 H4 => ∃ W1 : Nat → Nat → Hp → Prop, (∃ m, W1 0 m H4) ∧ ∀ j k H, W1 j k H →
        (J1.stop j H ∧ Nx H) ∨ (J1.go j H ∧ ∃ Nx1 : Hp → Prop, (∀ H', Nx1 H' → ∃ k', k' < k ∧ W1 (j + 1) k' H') ∧ ∀ x H', J1.yld j H x H' → bG X scope tg1 x (wipe σ2 vs1) H' fun σ3 H5 => wipe σ3 vs1 = wipe σ2 vs1 ∧ tYes σ3 H5 fun b H6 =>
          if b = true then bE X scope elt σ3 H6 fun y H7 => ∃ acc, H7 Dl = some (.lst acc) ∧ acc.length < sizeLine ∧ Nx1 (upd H7 Dl (.lst (acc ++ [y]))) else Nx1 H6)
      else Nx H3) := by
    refine ⟨fun i m H' => m = vs.length - i ∧ i ≤ vs.length ∧ LcInv X I1 H1 r Dl ((xs.take i).flatMap fun x => (zs x).map (g x)) H', ⟨vs.length, by simp, Nat.zero_le _, I1, [], Ext.own E.ih hD, E.ih.free hD, upd_same, .nil⟩, ?_⟩
    rintro i m H' ⟨rfl, hi, I', vs', E', n', l', p'⟩
    by_cases hlt : i < vs.length
    · have hvi : vs[i]? = some vs[i] := List.getElem?_eq_getElem hlt
      obtain ⟨x, hx, hrx⟩ := prd_get' p1 hvi
      have hmx : x ∈ xs := List.mem_of_getElem? hx
      refine .inr ⟨⟨vs, vs[i], SqL.of (E'.hh _ _ a1), hvi⟩, fun H'' => LcInv X I1 H1 r Dl ((xs.take (i + 1)).flatMap fun x => (zs x).map (g x)) H'', fun H'' h => ⟨vs.length - (i + 1), by omega, rfl, hlt, h⟩, fun v H'' ⟨e2, hy⟩ => ?_⟩
      obtain rfl : H' = H'' := e2.symm
      have := hy vs (SqL.of (E'.hh _ _ a1))
      rw [hvi] at this
      cases this
      intro S0 H0 C cl fp0
      refine ht x hmx S0 H0 C cl fp0 b _ I' _ fp _ E'.ih ((c1.up E').wipe _) (s.up E'.ii hrx) _ fun σ2 fp2 c2 e2 l2 w2 => ⟨?_, ?_⟩
      · rw [wipe_same l2 fun j hj => e2 j fun m => hj (his j m)]
        exact wipe_wipe
      refine tYes_ok E'.ih fun I2 H2 E2 => iteT ?_
      intro S1 H5 C1 cl1 fp1
      refine hi1 x hmx S1 H5 C1 cl1 fp1 b σ2 I2 H2 fp2 E2.ih (c2.up E2) _ fun qv I3 H3 E3 qz => ?_
      obtain ⟨q, ws, rfl, b0, w1⟩ := qz
      have b1 := E3.ih _ _ b0
      refine ⟨q, rfl, ⟨ws, SqL.of b1⟩, ?_⟩
      have E23 := E2.trans E3
      have EE := E'.trans E23
      have hDn : H' Dl ≠ none := by rw [l']; exact fun z => nomatch z
      have hI3 : I3 Dl = none := E23.pr Dl hDn n'
      -- the heap without the list that grows
      let G : Hp := open Classical in fun a => if a = Dl then none else H3 a
      have gD : G Dl = none := if_pos rfl
      have gN : ∀ a, a ≠ Dl → G a = H3 a := fun a h => if_neg h
      have sG : Same I3 G := fun a u e => by rw [gN a fun z => by rw [z, hI3] at e; cases e]; exact E3.ih _ _ e
      have EG : Ext I1 H1 I3 G := ⟨EE.ii, fun a u e => by rw [gN a fun z => by rw [z, hD] at e; cases e]; exact EE.hh _ _ e, sG, EE.pr⟩
      have c3 := (c2.up E2).up E3
      have hDfp : ∀ j, Dl ∉ fp2 j := fun j mj => (c1.prv j Dl (w2 j Dl mj)).2 hD
      have cG : Cn b I3 G σ2 (Γt x) fp2 := by
        have hk : ∀ j a, a ∈ fp2 j → G a = H3 a := fun j a m => gN a fun z => hDfp j (by rw [← z]; exact m)
        refine ⟨c3.len, fun j s' e => ?_, c3.dis, fun j a m => ?_, fun j a m => ?_⟩
        · have q2 := c3.at_ j s' e
          cases s' with
          | un => exact q2
          | eq v => exact q2
          | pub r x => exact q2
          | own w x => obtain ⟨v, e1, e2, e3⟩ := q2; exact ⟨v, e1, w.up (Same.refl _) (hk j) e2, e3⟩
          | slf v w x => obtain ⟨e1, e2, e3⟩ := q2; exact ⟨e1, w.up (Same.refl _) (hk j) e2, e3⟩
          | fact p => exact q2
          | gho v w x => obtain ⟨e2, e3⟩ := q2; exact ⟨w.up (Same.refl _) (hk j) e2, e3⟩
          | gpb v r x => exact q2
          | rd v w x => obtain ⟨e1, e2⟩ := q2; exact ⟨e1, w.up (Same.refl _) (hk j) e2⟩
        · rw [hk j a m]; exact c3.prv j a m
        · rw [hk j a m]; exact c3.nt j a m
      have hlen : ∀ k, (((xs.take i).flatMap fun x => (zs x).map (g x)) ++ ((zs x).take k).map (g x)).length ≤ (xs.flatMap fun x => (zs x).map (g x)).length := by
        intro k
        have e1 : xs = xs.take i ++ x :: xs.drop (i + 1) := by
          have := List.take_append_drop i xs
          rw [List.drop_eq_getElem_cons (List.getElem?_eq_some_iff.mp hx).1, (List.getElem?_eq_some_iff.mp hx).2] at this
          exact this.symm
        have e2 : (xs.flatMap fun x => (zs x).map (g x)) = ((xs.take i).flatMap fun x => (zs x).map (g x)) ++ ((zs x).map (g x) ++ (xs.drop (i + 1)).flatMap fun x => (zs x).map (g x)) := by
          conv => lhs; rw [e1]
          rw [List.flatMap_append, List.flatMap_cons]
        rw [e2]
        simp only [List.length_append, List.length_map, List.length_take]
        omega
      have hqD : q ≠ Dl := fun z => by subst z; have b0' : I3 q = some (.lst ws) := b0; rw [hI3] at b0'; cases b0'
      have hb1 : G q = some (.lst ws) := by rw [gN q hqD]; exact b1
      have lw : ws.length = (zs x).length := Paired.length w1
      refine ⟨fun k m H' => m = ws.length - k ∧ k ≤ ws.length ∧ LcInv X I3 G r Dl (((xs.take i).flatMap fun x => (zs x).map (g x)) ++ ((zs x).take k).map (g x)) H', ⟨ws.length, by simp, Nat.zero_le _, I3, vs', ⟨Same.refl _, fun a u e => by rw [← gN a fun z => by rw [z, gD] at e; cases e]; exact e, E3.ih, fun _ _ n => n⟩, hI3, E23.hh _ _ l', by rw [List.take_zero, List.map_nil, List.append_nil]; exact Paired.mapP p' fun _ _ z => r.up E23.ii z⟩, ?_⟩
      rintro k m Hk ⟨rfl, hk, Ik, vk, Ek, nk, lk, pk⟩
      by_cases hlt2 : k < ws.length
      · have hwk : ws[k]? = some ws[k] := List.getElem?_eq_getElem hlt2
        obtain ⟨zz, hzz, hrz⟩ := prd_get' w1 hwk
        have hmz : zz ∈ zs x := List.mem_of_getElem? hzz
        refine .inr ⟨⟨ws, ws[k], SqL.of (Ek.hh _ _ hb1), hwk⟩, fun H'' => LcInv X I3 G r Dl (((xs.take i).flatMap fun x => (zs x).map (g x)) ++ ((zs x).take (k + 1)).map (g x)) H'', fun H'' h => ⟨ws.length - (k + 1), by omega, rfl, hlt2, h⟩, fun v H'' ⟨e2', hy'⟩ => ?_⟩
        obtain rfl : Hk = H'' := e2'.symm
        have := hy' ws (SqL.of (Ek.hh _ _ hb1))
        rw [hwk] at this
        cases this
        have hv2 : ∀ j, j ∉ vs1 → True := fun _ _ => trivial
        have hlk := hlen (k + 1)
        have hkl : k < (zs x).length := by omega
        intro S3 H6 C3 cl3 fp3
        refine ht1 x hmx zz hmz S3 H6 C3 cl3 fp3 b _ Ik _ fp2 _ Ek.ih ((cG.up Ek).wipe _) (s1.up Ek.ii hrz) _ fun σ3 fp4 c4 e4 l4 w4 => ⟨?_, ?_⟩
        · rw [wipe_same l4 fun j hj => e4 j fun m => hj (his1 j m)]
          exact wipe_wipe
        refine tYes_ok Ek.ih fun I5 H7 E5 => iteT ?_
        intro S4 H8 C4 cl4 fp5
        refine he x hmx zz hmz S4 H8 C4 cl4 fp5 b σ3 I5 H7 fp4 E5.ih (c4.up E5) _ fun w I6 H9 E6 z6 => ?_
        have E7 := E5.trans E6
        have nDk : Hk Dl ≠ none := by rw [lk]; exact fun z => nomatch z
        refine ⟨vk, E7.hh _ _ lk, ?_, I6, vk ++ [w], ?_, E7.pr _ nDk nk, upd_same, ?_⟩
        · have := Paired.length pk
          simp only [List.length_append, List.length_map, List.length_take] at hlk this ⊢
          omega
        · have E8 := Ek.trans E7
          refine ⟨E8.ii, fun a o q => ?_, fun a o q => ?_, E8.pr⟩
          · rw [upd_ne (fun z => by rw [z, gD] at q; cases q)]; exact E8.hh _ _ q
          · rw [upd_ne (fun z => by rw [z, E7.pr _ nDk nk] at q; cases q)]; exact E8.ih _ _ q
        · rw [List.take_add_one, hzz, List.map_append, ← List.append_assoc]
          exact Paired.snoc (Paired.mapP pk fun _ _ z => r.up E7.ii z) z6
      · have ek : k = ws.length := by omega
        subst ek
        refine .inl ⟨⟨ws, SqL.of (Ek.hh _ _ hb1), Nat.le_refl _⟩, ?_⟩
        rw [lw, List.take_length] at pk
        refine ⟨Ik, vk, ?_, nk, lk, ?_⟩
        · exact EG.trans Ek
        · rw [List.take_add_one, hx, List.flatMap_append]
          simpa using pk
    · have e : i = vs.length := by omega
      subst e
      refine .inl ⟨⟨vs, SqL.of (E'.hh _ _ a1), Nat.le_refl _⟩, ?_⟩
      rw [Paired.length p1, List.take_length] at p'
      refine hQ _ I' H' [Dl] (E.trans E') ⟨Dl, vs', rfl, rfl, l', p'⟩ fun a m => ?_
      obtain rfl : a = Dl := by simpa using m
      exact ⟨E.hh.free hD, n', by rw [l']; exact fun z => nomatch z⟩
  exact key
end
end T

/-! ## T11 -/
/-! The typed layer: get with a default, sorted keys, ranges as values. -/
namespace T
open PySem PySem.Spec PyProof.Rows L2
section
variable {α β γ δ : Type} {ρ ρ' ρ'' : Bool} {b : Bs} {X : Cx} {Γ Γ' Γ1 Γ2 Δ : List B} {e e1 e2 e3 c d tg tg1 elt iter iter1 : Expr} {es tgs ifs more : List Expr} {r : Rep α} {x : α} {pos : Pos} {is is' : List Nat} {D : Ends} {rest body : List Stmt} {scope : Scope}
/-- d.get(k, x) -/
theorem ev_getK2 {t : List (Nat × α)} {key : Nat} {apos : Pos} (hu : X.A.units + 1 < cLine) (h1 : Ev true X Γ e1 (rDic r) t) (h2 : Ev true X Γ e2 rNat key) (h3 : Ev true X Γ e3 r x) (m : M2 X e1 "get" apos e2 e3 pos := by exact ⟨rfl, rfl, rfl, rfl⟩) : Ev true X Γ (.Call (.Attribute e1 "get" apos) [e2, e3] [] pos) r ((tget t key).getD x) :=
  fun b σ I H fp hS k Q hq => PE.w (pe_dget2 hu pe_w pe_w pe_w m) (h1 b σ I H fp hS k _ fun v I1 H1 E1 z1 => by
    obtain ⟨p, kvs, rfl, a1, p1⟩ := z1
    refine ⟨p, rfl, .inl ⟨kvs, .inl (vw_in E1.ih _ _ a1)⟩, h2 b σ I1 H1 fp E1.ih (k.up E1) _ fun w I2 H2 E2 z2 => ?_⟩
    cases z2
    refine h3 b σ I2 H2 fp E2.ih ((k.up E1).up E2) _ fun w3 I3 H3 E3 z3 => ?_
    have E23 := E2.trans E3
    have a1' := vw_up (ρ := true) (fp := fp) E23 _ _ a1
    have g := DGet.k (k := kI key) (vw_in E3.ih _ _ a1')
    rcases p1.get kI_inj key with ⟨n1, n⟩ | ⟨u, y, g1, g2, g3⟩
    · refine ⟨none, by rw [n1] at g; exact g, ?_⟩
      rw [n] at hq
      exact hq _ I3 H3 (E1.trans E23) z3
    · refine ⟨some u, by rw [g1] at g; exact g, ?_⟩
      rw [g2] at hq
      exact hq _ I3 H3 (E1.trans E23) (r.up E23.ii g3))
/-- a dict of lists that the def owns, published -/
theorem ev_mlPubK {t : List (Nat × List Nat)} (h : Ev ρ X Γ e (repML kdI) t) : Ev ρ X Γ e (rDic (rLst rNat)) t := h
theorem ev_mlPubP {t : List ((Nat × Nat) × List Nat)} (h : Ev ρ X Γ e (repML kdP) t) : Ev ρ X Γ e (rTab (rLst rNat)) t := h
/-- a call whose answer is told ahead -/
theorem ev_callZ {n : Str} {k0 : Nat} {ps : List Str} {f : Fld α} {s : Rep β} {pre : α → Prop} {g : α → β} {x : α} {z : β} {p : Pos} (F : Cal X.prog X.w X.K X.mg X.base n k0 ps (spF f s pre (fun x y => y = g x))) (hr : Room k0 X.A) (ha : EvF ρ X Γ (e :: es) f x) (hx : pre x) (hz : g x = z := by rfl) (hg : Gl X n := by rfl) (hdb : (n == ("__debug__" : Str)) = false := by decide)
    (he : starEach (e :: es) X.env = (false, eval e X.env) :: starEach es X.env := by rfl) (hp : (backTo pos (starEach es X.env)).any (·.1) = false := by rfl) : Ev ρ X Γ (.Call (.Name n p) (e :: es) [] pos) s z := hz ▸ ev_callE F hr ha hx hg hdb he hp
end
end T

/-! ## T12 -/
/-! sorted(d), d a dict whose keys are pairs. -/
namespace T
open PySem PySem.Spec PyProof.Rows L2
section
variable {X : Cx}
noncomputable def pairAt (H : Hp) (u : Value) : Int × Int := match u with
  | .ref a => (match H a with
    | some (.tup [.int i, .int j]) => (i, j)
    | _ => (0, 0))
  | _ => (0, 0)
theorem kt_at {H : Hp} {kvs : List (List Key × V)} {ks : List (List Key × Addr × Value)} (h : KT H kvs ks) : kvs.map (·.1) = ks.map (·.1) ∧ ∀ x ∈ ks, H x.2.1 = some (.tup (x.1.map kV)) := by
  unfold KT at h
  induction h with
  | nil => exact ⟨rfl, by simp⟩
  | cons a b ih =>
    refine ⟨by rw [List.map_cons, List.map_cons, ih.1, a.1], fun x m => ?_⟩
    rcases List.mem_cons.mp m with z | z
    · rw [z, ← a.1]; exact a.2.1
    · exact ih.2 x z
/-- sorted(d): the keys, pairs of ints, in a new list -/
theorem call_sortedDT (hcalm : X.calm = true) : CallR X (.builtin "sorted") (fun xs H Q => ∃ (a : Addr) (kvs : List (List Key × V)) (ks : List (Int × Int)), xs = [.ref a] ∧ Rd H a (.dT kvs) ∧ kvs.map (·.1) = ks.map (fun p => [Sum.inl p.1, Sum.inl p.2]) ∧ kvs.length ≤ sizeLine ∧
    ∀ (bs : List Addr) (ys : List (Int × Int)) (p : Addr), Paired (fun b y => H b = some (.tup [.int y.1, .int y.2])) bs ys → ys.Perm ks → ys.Pairwise (fun x y => SrtO.lexB y x = false) → H p = none → Q (.ref p) (upd H p (.lst (bs.map V.ref)))) := by
  intro pins s σ H xs us Q I r q
  obtain ⟨a, kvs, ks, ex, hd, hks, hzl, q⟩ := q
  subst ex
  obtain ⟨u, eu, rx⟩ := vals1 r
  subst eu
  cases rx
  obtain ⟨z, hs, kk, pr, o, es, ep, ho, hx, hdt, he, hn⟩ := (show ObjOk X.prog X.w H s.heap a (.dT kvs) from hd.ok I.hok)
  have l1 : es.size = kk.length := size_of_entries he
  have l2 : kvs.length = kk.length := Paired.length pr
  have hkt := kt_at pr
  refine Calls.call_function_entry PyProof.Rows.kind_sorted PyProof.Rows.plain_sorted PyProof.Rows.entry_sorted (PyProof.Rows.args_sorted1 _) ?_
  unfold Builtin.«sorted»
  refine wpAny_bind (m := checkCount "sorted" 1 1 _) (wpAny_pure ?_)
  refine wpAny_bind (PySem.W.kdu_collect (A := X.A.in1) (kdl_raw hs hx hdt) (I.ok.hd hcalm) ho (by omega) fun h' tk acc hk hacc => ?_)
  have hal : acc.toList = (kk.map fun x => x.2.1).map Value.ref := by
    rw [List.map_map]
    apply List.ext_getElem?
    intro j
    rw [List.getElem?_map]
    have hl : acc.toList.length = kk.length := by rw [Array.length_toList, hacc.1]; exact l1
    cases hj : acc.toList[j]? with
    | none =>
      have h1 := List.getElem?_eq_none_iff.mp hj
      rw [List.getElem?_eq_none (by omega)]
      rfl
    | some v =>
      obtain ⟨en, hen, hv⟩ := hacc.2 j v (by rw [← Array.getElem?_toList]; exact hj)
      have qe := entry_at he j
      rw [hen] at qe
      cases hb : kk[j]? with
      | none =>
        rw [hb] at qe
        exact nomatch (show some en = none from qe)
      | some b =>
        rw [hb] at qe
        have e2 : en = entryOfKey (tupleKind (mixKind X.prog X.w)) b := Option.some.inj qe
        rw [hv, e2]
        rfl
  have hkey : ∀ (j : Nat) (x : List Key × Addr × Value), kk[j]? = some x → ∃ p : Int × Int, ks[j]? = some p ∧ x.1 = [Sum.inl p.1, Sum.inl p.2] := fun j x hj => by
    have h1 : (kk.map (·.1))[j]? = some x.1 := by rw [List.getElem?_map, hj]; rfl
    rw [← hkt.1, hks, List.getElem?_map] at h1
    cases h2 : ks[j]? with
    | none => rw [h2] at h1; cases h1
    | some p => rw [h2] at h1; exact ⟨p, rfl, (Option.some.inj h1).symm⟩
  have htup : ∀ (j : Nat) (x : List Key × Addr × Value), kk[j]? = some x → ∃ p : Int × Int, ks[j]? = some p ∧ H x.2.1 = some (.tup [.int p.1, .int p.2]) := fun j x hj => by
    obtain ⟨p, h1, h2⟩ := hkey j x hj
    refine ⟨p, h1, ?_⟩
    have h3 := hkt.2 x (List.mem_of_getElem? hj)
    rw [h2] at h3
    exact h3
  have hpa : ∀ (j : Nat) (x : List Key × Addr × Value), kk[j]? = some x → ∀ p : Int × Int, ks[j]? = some p → pairAt H (.ref x.2.1) = p := fun j x hj p hp => by
    obtain ⟨p', h1, h2⟩ := htup j x hj
    rw [hp] at h1; cases h1
    unfold pairAt
    simp only [h2]
  have hmem : ∀ v ∈ acc.toList, ∃ (j : Nat) (x : List Key × Addr × Value), kk[j]? = some x ∧ v = .ref x.2.1 := fun v m => by
    rw [hal, List.map_map] at m
    obtain ⟨x, hx, rfl⟩ := List.mem_map.mp m
    obtain ⟨j, hj⟩ := List.getElem?_of_mem hx
    exact ⟨j, x, hj, rfl⟩
  have hpair : ∀ v ∈ acc.toList, Srt.IsPair s.heap v (pairAt H v).1 (pairAt H v).2 := fun v m => by
    obtain ⟨j, x, hj, rfl⟩ := hmem v m
    obtain ⟨p, h1, h2⟩ := htup j x hj
    rw [hpa j x hj p h1]
    obtain ⟨_, its2, r2, o, ho, hc, n, hd⟩ := I.hok _ _ h2
    obtain ⟨u1, u2, rfl, ri, rj⟩ := vals2 r2
    obtain ⟨t1, rfl⟩ := ri
    obtain ⟨t2, rfl⟩ := rj
    exact ⟨_, o, t1, t2, n, rfl, ho, hc, hd⟩
  have hmp : acc.toList.map (pairAt H) = ks := by
    rw [hal, List.map_map, List.map_map]
    apply List.ext_getElem?
    intro j
    rw [List.getElem?_map]
    cases hj : kk[j]? with
    | none =>
      have h1 := List.getElem?_eq_none_iff.mp hj
      have h2 : kk.length = ks.length := by
        have e := congrArg List.length hks
        rw [List.length_map, List.length_map] at e
        omega
      rw [List.getElem?_eq_none (by omega)]
      rfl
    | some x =>
      obtain ⟨p, h1, h2⟩ := htup j x hj
      rw [h1]
      show some (pairAt H (.ref x.2.1)) = some p
      rw [hpa j x hj p h1]
  have hz2 : acc.toList.length ≤ sizeLine := by rw [Array.length_toList, hacc.1]; omega
  refine wpAny_bind (wpAny_newList ?_ hz2)
  have hoL : (h'.push (seqObj "list" acc.toList.toArray 0)).get? h'.objs.size = some (seqObj "list" acc.toList.toArray 0) := Heap.get?_push_size _ rfl
  have keep : ∀ b o, s.heap.get? b = some o → b ≠ h'.objs.size ∧ (h'.push (seqObj "list" acc.toList.toArray 0)).get? b = some o := fun b o q => by
    have h1 := hk b o q
    exact ⟨Nat.ne_of_lt (Heap.lt_size h1), Heap.get?_push_of_some _ h1⟩
  have I1 : Inv X pins σ H { s with heap := h', toks := tk } := I.kept hk
  show wpAny _ _ _ _ _ { s with heap := h'.push (seqObj "list" acc.toList.toArray 0), toks := tk }
  refine wpAny_bind (wpAny_holding (wpAny_call_entry PyProof.Rows.slot_list_sort ⟨_, hoL, rfl⟩ PyProof.Rows.entry_list_sort
    (SrtO.list_sort_ord (SrtO.swo_lex (pairAt H)) hoL hz2 (fun h2 => SrtO.pairs_sortableO (s := { s with heap := h'.push (seqObj "list" acc.toList.toArray 0), toks := tk }) (by omega) (fun v hm => (hpair v hm).keeps fun b o e _ => (keep b o e).2) fun o e => ?_) fun out g1 g2 => ⟨_, rfl, ?_⟩) (PyProof.Rows.args_list_sort _)))
  · have e' : some o = some (seqObj "list" acc.toList.toArray 0) := e.symm.trans hoL
    cases e'
    intro c
    exact absurd (Value.type.inj c) (by decide)
  obtain ⟨e', he'⟩ := PyProof.Rows.sortedHeap_at (vs := acc.toList) (out := out.toArray) hoL
  have hom : ∀ v ∈ out, ∃ b, v = Value.ref b ∧ H b = some (.tup [.int (pairAt H v).1, .int (pairAt H v).2]) := fun v m => by
    obtain ⟨j, x, hj, rfl⟩ := hmem v (g2.perm.mem_iff.mp m)
    obtain ⟨p, h1, h2⟩ := htup j x hj
    exact ⟨_, rfl, by rw [hpa j x hj p h1]; exact h2⟩
  have hout : ∀ l : List Value, (∀ v ∈ l, ∃ b, v = Value.ref b ∧ H b = some (.tup [.int (pairAt H v).1, .int (pairAt H v).2])) → ∃ bs : List Addr, l = bs.map Value.ref ∧ Paired (fun b (y : Int × Int) => H b = some (.tup [.int y.1, .int y.2])) bs (l.map (pairAt H)) := by
    intro l
    induction l with
    | nil => intro _; exact ⟨[], rfl, .nil⟩
    | cons v l ih =>
      intro hm
      obtain ⟨bs, e1, e2⟩ := ih fun v m => hm v (List.mem_cons_of_mem _ m)
      obtain ⟨b, rfl, hb⟩ := hm v (by simp)
      exact ⟨b :: bs, by rw [e1]; rfl, .cons hb e2⟩
  obtain ⟨bs, eb, pb⟩ := hout out hom
  have hlen : (bs.map V.ref).length ≤ sizeLine := by
    have h1 := congrArg List.length eb
    rw [List.length_map] at h1
    rw [List.length_map, ← h1, g2.perm.length_eq]
    exact hz2
  have rv : Vals (bs.map V.ref) out := by rw [eb]; exact vals_refs _
  refine wpAny_pure ⟨_, rfl, .ref h'.objs.size, upd H h'.objs.size (.lst (bs.map V.ref)), I1.laid (t' := tk) (fun b u e => ?_) (Nat.le_refl _)
    (show ObjOk X.prog X.w _ _ _ (.lst (bs.map V.ref)) from ⟨hlen, out, e', rv, he'⟩), rfl, q bs (out.map (pairAt H)) _ pb ?_ ?_ (I1.hok.fresh (Nat.le_refl _))⟩
  · have hb : b < h'.objs.size := Heap.lt_size e
    rw [PyProof.Rows.sortedHeap_old (Nat.ne_of_lt hb) (by rw [size_push']; exact Nat.lt_succ_of_lt hb)]
    exact Heap.get?_push_of_some _ e
  · rw [← hmp]; exact g2.perm.map _
  · rw [List.pairwise_map]; exact g1
end
section
variable {α β γ δ : Type} {ρ : Bool} {b : Bs} {X : Cx} {Γ Γ' : List B} {e c tg elt iter : Expr} {es tgs : List Expr} {r : Rep α} {pos : Pos} {is : List Nat} {scope : Scope}
/-- a new list of pairs that stand in the heap -/
def EvK (X : Cx) (Γ : List B) (e : Expr) (xs : List (Nat × Nat)) : Prop := ∀ (b : Bs) (σ : L2.St) (I H : Hp) (fp : Nat → List Addr), Same I H → Cn b I H σ Γ fp →
  ∀ Q : VK, (∀ p bs I' H', Ext I H I' H' → H' p = some (.lst (bs.map V.ref)) → Paired (fun t (x : Nat × Nat) => H' t = some (.tup [.int (x.1 : Int), .int (x.2 : Int)])) bs xs → Q (.ref p) H') → wE X e σ H Q
theorem ents_keys {r : Rep α} {I : Hp} {kvs : List (List Key × V)} {t : List ((Nat × Nat) × α)} (h : Ents kP (r.is I) kvs t) : kvs.map (·.1) = (t.map fun x => ((x.1.1 : Int), (x.1.2 : Int))).map (fun p => [Sum.inl p.1, Sum.inl p.2]) := by
  unfold Ents at h
  induction h with
  | nil => rfl
  | cons a b ih => rw [List.map_cons, List.map_cons, List.map_cons, ih, a.1]; rfl
theorem ev_sortT {t : List ((Nat × Nat) × α)} {p : Pos} (hcalm : X.calm = true) (hm : X.mg "sorted" = none) (h : Ev ρ X Γ e (rTab r) t) (hz : t.length ≤ sizeLine) (hg : Gl X "sorted" := by rfl) (hs : starEach [e] X.env = (false, eval e X.env) :: starEach [] X.env := by rfl) (hp : (backTo pos (starEach [] X.env)).any (·.1) = false := by rfl) : EvK X Γ (.Call (.Name "sorted" p) [e] [] pos) (Ov.sortP (t.map (·.1))) :=
  fun b σ I H fp hS k Q hq => PE.w (pe_callB (call_sortedDT hcalm) hg hm (by decide +kernel) (pa_cons pe_w pa_nil hs) (by decide) (by decide) hs hp) (h b σ I H fp hS k _ fun v I1 H1 E z => by
    obtain ⟨q, kvs, rfl, a1, p1⟩ := z
    refine ⟨q, kvs, _, rfl, .inl (vw_in E.ih _ _ a1), ents_keys p1, by rw [p1.length]; exact hz, fun bs ys l hb hpm hsr hl => ?_⟩
    have hnn : ∀ y ∈ ys, (0 : Int) ≤ y.1 ∧ (0 : Int) ≤ y.2 := fun y m => by
      obtain ⟨x, _, rfl⟩ := List.mem_map.mp (hpm.mem_iff.mp m)
      exact ⟨Int.natCast_nonneg _, Int.natCast_nonneg _⟩
    have e1 : ys.map (fun y => (y.1.toNat, y.2.toNat)) = Ov.sortP (t.map (·.1)) := by
      refine sortP_eq ?_ ?_
      · have := hpm.map (fun y => (y.1.toNat, y.2.toNat))
        rw [List.map_map] at this
        exact this
      · rw [List.pairwise_map]
        refine List.Pairwise.imp_of_mem (fun {x y} hx hy hxy => ?_) hsr
        have hxy := SrtO.lexB_no.mp hxy
        have := hnn x hx
        have := hnn y hy
        rw [leP_iff]
        dsimp only
        omega
    refine hq l bs I1 _ (E.trans (Ext.own E.ih hl)) upd_same ?_
    rw [← e1]
    have hb2 : Paired (fun b (y : Int × Int) => upd H1 l (.lst (bs.map V.ref)) b = some (.tup [.int y.1, .int y.2])) bs ys := Paired.mapP hb fun b y z => by
      rw [upd_ne fun w => by rw [w, hl] at z; cases z]; exact z
    clear hq hb hpm hsr e1
    generalize upd H1 l (.lst (bs.map V.ref)) = G at hb2
    induction hb2 with
    | nil => exact .nil
    | @cons b y bs ys a _ ih =>
      refine .cons ?_ (ih fun z m => hnn z (List.mem_cons_of_mem _ m))
      have h2 := hnn y (by simp)
      rw [a]
      show some (HO.tup [V.int y.1, V.int y.2]) = some (HO.tup [V.int ((y.1.toNat : Nat) : Int), V.int ((y.2.toNat : Nat) : Int)])
      rw [Int.toNat_of_nonneg h2.1, Int.toNat_of_nonneg h2.2])
/-- a target for a pair that stands in the heap -/
def TgH (X : Cx) (Γ : List B) (tg : Expr) (is : List Nat) (x : Nat × Nat) (Γ' : List B) : Prop := ∀ (b : Bs) (σ : L2.St) (I H : Hp) (fp : Nat → List Addr) (t : Addr), Same I H → Cn b I H σ Γ fp → H t = some (.tup [.int (x.1 : Int), .int (x.2 : Int)]) →
  ∀ Q : L2.St → Hp → Prop, (∀ σ' fp', Cn b I H σ' Γ' fp' → (∀ j, j ∉ is → σ'[j]? = σ[j]?) → σ'.length = σ.length → (∀ j a, a ∈ fp' j → a ∈ fp j) → Q σ' H) → wG X tg (.ref t) σ H Q
theorem tgh_two {x : Nat × Nat} {k2 : Nat} (hc : X.calm = true) (h : Tgs X Γ tgs is (fCons rNat (fOne rNat)) x Γ') (hn : (assignEach tgs X.env).length = 2 := by rfl) (hst : (assignEach tgs X.env).findIdx? (·.1) = none := by rfl) : TgH X Γ (.Tuple tgs k2 pos) is x Γ' := fun b σ I H fp t s k z Q q =>
  PG.w (pg_tup hc pgs_w hn hst) ⟨t, _, rfl, SqT.of z, rfl, h b σ I H fp _ s k ⟨_, _, rfl, rfl, _, rfl, rfl⟩ Q q⟩
theorem lc_kf {xs : List (Nat × Nat)} {f : Nat × Nat → Bool} {g : Nat × Nat → α} {Γt : Nat × Nat → List B} (own : List (Str × Nat)) (is : List Nat) (hc : X.calm = true) (hN : X.N.Nodup) (hE : EvK X Γ iter xs) (hz : xs.length < sizeLine) (ok : blkC X.N X.env.scope scope own = true)
    (ht : ∀ x ∈ xs, Blk X scope fun Y => TgH Y (wipeB Γ (own.map (·.2))) tg is x (Γt x)) (hf : ∀ x ∈ xs, Blk X scope fun Y => EvT Y (Γt x) c (f x)) (he : ∀ x ∈ xs, f x = true → Blk X scope fun Y => Ev true Y (Γt x) elt r (g x)) (his : ∀ j ∈ is, j ∈ own.map (·.2) := by decide)
    (hs : ∀ x, foldedSetIterable iter X.env x = pure x := by intro _; rfl) : LcN X Γ (.ListComp elt [⟨tg, iter, [c], 0⟩] scope pos) r ((xs.filter f).map g) := ⟨elt, tg, iter, [c], scope, pos, own, iList X.K (wE X iter), bG X scope tg, bT X scope c, bE X scope elt, rfl, hc, hN, pi_list pe_w, blkOk_by ok, bG_ok, fun _ _ _ _ _ => pts_one (bT_ok _ _ _ _ _), bE_ok, hs,
  fun b σ I H fp s1 k Q q => hE b σ I H fp s1 k _ fun p bs I1 H1 E a1 p1 => ⟨p, rfl, ⟨bs.map V.ref, SqL.of a1⟩, fun Dl hD => lc_list (xs := bs.map V.ref) (fun i H' => LcInv X I1 H1 r Dl (((xs.take i).filter f).map g) H')
    ⟨I1, [], Ext.own E.ih hD, E.ih.free hD, upd_same, by rw [List.take_zero]; exact .nil⟩ (fun i H' _ ⟨I', vs', E', _, _, _⟩ => SqL.of (E'.hh _ _ a1))
    (fun i v H' hi ⟨I', vs', E', n', l', p'⟩ => by
      rw [List.getElem?_map] at hi
      obtain ⟨t, ht1, rfl⟩ := Option.map_eq_some_iff.mp hi
      obtain ⟨x, hx, hr⟩ := prd_get' p1 ht1
      have hm : x ∈ xs := List.mem_of_getElem? hx
      have hlt : i < xs.length := (List.getElem?_eq_some_iff.mp hx).1
      have hle := List.length_filter_le f (xs.take i)
      rw [List.length_take] at hle
      have nD : H' Dl ≠ none := by rw [l']; exact fun z => nomatch z
      have hn : ∀ H2, LcInv X I1 H1 r Dl (((xs.take (i + 1)).filter f).map g) H2 → LcInv X I1 H1 r Dl (((xs.take (i + 1)).filter f).map g) H2 := fun _ h => h
      have etk : ((xs.take (i + 1)).filter f).map g = if f x then ((xs.take i).filter f).map g ++ [g x] else ((xs.take i).filter f).map g := by
        rw [List.take_add_one, hx]
        cases q : f x <;> simp [q]
      intro S0 H0 C cl fp0
      refine ht x hm S0 H0 C cl fp0 b _ I' H' fp t E'.ih ((k.up E |>.up E').wipe _) (E'.hh _ _ hr) _ fun σ2 fp2 c2 e2 l2 _ => ⟨?_, ?_⟩
      · rw [wipe_same l2 fun j hj => e2 j fun m => hj (his j m)]
        exact wipe_wipe
      · intro S0 H0 C cl fp0
        refine hf x hm S0 H0 C cl fp0 b σ2 I' H' fp2 E'.ih c2 _ fun I2 H2 E2 => ?_
        rw [etk]
        cases qf : f x with
        | false => exact iteF ⟨I2, vs', E'.trans E2, E2.pr _ nD n', E2.hh _ _ l', Paired.mapP p' fun _ _ z => r.up E2.ii z⟩
        | true =>
          refine iteT fun S1 H5 C1 cl1 fp1 => he x hm qf S1 H5 C1 cl1 fp1 b σ2 I2 H2 fp2 E2.ih (c2.up E2) _ fun w I3 H3 E3 z => ?_
          have E4 := E2.trans E3
          refine ⟨vs', E4.hh _ _ l', by rw [Paired.length p', List.length_map]; omega, I3, vs' ++ [w], ?_, E4.pr _ nD n', upd_same, Paired.snoc (Paired.mapP p' fun _ _ z => r.up E4.ii z) z⟩
          have E5 := E'.trans E4
          refine ⟨E5.ii, fun a o q => ?_, fun a o q => ?_, E5.pr⟩
          · rw [upd_ne (fun z => by rw [z, hD] at q; cases q)]; exact E5.hh _ _ q
          · rw [upd_ne (fun z => by rw [z, E4.pr _ nD n'] at q; cases q)]; exact E5.ih _ _ q) (fun H' ⟨I', vs', E', n', l', p'⟩ => q Dl vs' I' H' (E.trans E') (E.hh.free hD) n' l' (by
            have hl := Paired.length p1
            rw [List.length_map, hl, List.take_length] at p'; exact p'))⟩⟩
end
end T

/-! ## T13 -/
/-! While loops; reverse, extend. -/
namespace T
open PySem PySem.Spec PyProof.Rows L2
section
variable {α : Type} {X : Cx} {Γ : List B} {b : Bs} {D : Ends} {pos : Pos} {rest : List Stmt} {r : Rep α} {e : Expr}
theorem run_while {c : Expr} {body : List Stmt} {n : Nat} (Γs : Nat → List B) (h0 : Le Γ (Γs 0)) (ht : ∀ i, i ≤ n → EvT X (Γs i) c (decide (i < n))) (hs : ∀ i, i < n → Run b X body (lp D X rest (Sg b (Γs (i + 1)))) (Γs i)) (hd : Run b X rest D (Γs n))
    (hp : PassesOwn (model X.prog X.w) X.A X.env X.xe := by exact PassesOwn.never) : Run b X (.While c body [] pos :: rest) D Γ := fun σ H g => PSs.w (pss_cons (ps_while hp pt_w pss_w) pss_w) ⟨fun m σ H => ∃ i, i ≤ n ∧ m = n - i ∧ Sg b (Γs i) σ H, ⟨n, 0, Nat.zero_le _, by omega, g.le h0⟩, fun m σ H h => by
    obtain ⟨i, hi, rfl, I, fp, ok, cn⟩ := h
    refine ht i hi b σ I H fp ok.ih cn _ fun I1 H1 E => ?_
    have sg1 : Sg b (Γs i) σ H1 := ⟨I1, fp, ok.up E, cn.up E⟩
    by_cases hlt : i < n
    · rw [decide_eq_true hlt, if_pos rfl]
      refine ⟨Sg b (Γs (i + 1)), fun σ' H' g' => ⟨n - (i + 1), by omega, i + 1, by omega, rfl, g'⟩, hs i hlt _ _ sg1⟩
    · rw [decide_eq_false hlt, if_neg (by decide)]
      obtain rfl : i = n := by omega
      exact hd _ _ sg1⟩
theorem run_rev {n : Str} {p p2 p3 : Pos} {xs : List α} (i : Nat) (g : Γ[i]? = some (.own (oLst r) xs)) (k : Run b X rest D (Γ.set i (.own (oLst r) xs.reverse))) (hN : X.N[i]? = some n) (hv : Vis X.env.scope n)
    (hp : PS X (.Expr (.Call (.Attribute (.Name n p) "reverse" p2) [] [] p3) pos) (tDrop (tBM0 X.K "list" rReverse (tVar i)))) : Run b X (.Expr (.Call (.Attribute (.Name n p) "reverse" p2) [] [] p3) pos :: rest) D Γ :=
  run_of fun σ I H fp o c => by
    obtain ⟨v, hσ, ⟨q, vs, rfl, hf, a1, p1⟩, hl⟩ := c.get_own g
    refine PS.w hp ⟨_, hσ, .inl ⟨rfl, _, SqL.of a1⟩, q, vs, rfl, rfl, a1, ?_⟩
    exact k _ _ (own_upd (o := oLst r) o c hσ hf (hl q (by rw [hf]; simp)) ⟨q, _, rfl, rfl, upd_same, prd_rev p1⟩)
theorem run_ext {n : Str} {p p2 p3 : Pos} {xs ys : List α} (i : Nat) (g : Γ[i]? = some (.own (oLst r) xs)) (h : Ev true X Γ e (rLst r) ys) (hz : xs.length + ys.length ≤ sizeLine) (k : Run b X rest D (Γ.set i (.own (oLst r) (xs ++ ys)))) (hN : X.N[i]? = some n := by rfl) (hv : Vis X.env.scope n := by first | exact Or.inl rfl | exact Or.inr (Or.inl rfl) | exact Or.inr (Or.inr rfl))
    (hp : PS X (.Expr (.Call (.Attribute (.Name n p) "extend" p2) [e] [] p3) pos) (tDrop (tBM X.K "list" rExtend (tVar i) (tCons (wE X e) tNil))) := by exact ps_expr (pe_bm PySem.F.plainAttrs_list PySem.F.slot_list_extend PySem.F.type_list_extend mt_extend (pv _) (pa_cons pe_w pa_nil))) : Run b X (.Expr (.Call (.Attribute (.Name n p) "extend" p2) [e] [] p3) pos :: rest) D Γ :=
  run_of fun σ I H fp o c => by
    obtain ⟨v, hσ, ⟨q, vs, rfl, hf, a1, p1⟩, hl⟩ := c.get_own g
    refine PS.w hp ⟨_, hσ, .inl ⟨rfl, _, SqL.of a1⟩, h b σ I H fp o.ih c _ fun w I' H' E z => ?_⟩
    obtain ⟨q2, ws, rfl, a2, p2⟩ := z
    refine ⟨q, q2, vs, ws, rfl, rfl, E.hh _ _ a1, E.ih _ _ a2, by rw [Paired.length p1, Paired.length p2]; exact hz, ?_⟩
    exact k _ _ (own_upd (o := oLst r) (o.up E) (c.up E) hσ hf (hl q (by rw [hf]; simp)) ⟨q, _, rfl, rfl, upd_same, prd_append (Paired.mapP p1 fun _ _ z => r.up E.ii z) p2⟩)
/-- t1 = t2 = e -/
theorem run_asg2 {β : Type} {s : Rep β} {x : α} {y : β} {t1 t2 : Expr} {is is' : List Nat} {Γ1 Γ2 : List B} (h : Ev true X Γ e r x) (ht1 : Tg X Γ t1 is r x Γ1) (hc : ∀ {I : Hp} {v : V}, r.is I v x → s.is I v y) (ht2 : Tg X Γ1 t2 is' s y Γ2) (k : Run b X rest D Γ2)
    (ha : (assignEach [t1, t2] X.env).map (·.2) = [assign t1 X.env, assign t2 X.env] := by rfl) (hw : swappedStores [t1, t2] e X.env = pure none := by rfl) : Run b X (.Assign [t1, t2] e pos :: rest) D Γ :=
  run_of fun σ I H fp o c => PS.w (ps_asg2 pe_w pg_w pg_w ha hw) (h b σ I H fp o.ih c _ fun v I1 H1 E z => ht1 b σ I1 H1 fp v E.ih (c.up E) z _ fun σ2 fp2 c2 _ _ _ => ht2 b σ2 I1 H1 fp2 v E.ih c2 (hc z) _ fun σ3 fp3 c3 _ _ _ => k _ _ ⟨I1, fp3, o.up E, c3⟩)
end
end T

/-! ## T14 -/
/-! A list comprehension over a dict that is published: locked meanwhile. -/
namespace T
open PySem PySem.Spec PyProof.Rows L2
section
variable {α β γ : Type} {ρ ρ' : Bool} {b : Bs} {X : Cx} {Γ Γi : List B} {e1 e2 c tg elt : Expr} {rest : List Stmt} {D : Ends} {pos : Pos} {scope : Scope} {is : List Nat}
theorem rd_up {I J : Hp} {p : Addr} {u : HO} (e : Same I J) (h : Rd I p u) : Rd J p u := h.elim (fun h => .inl (e _ _ h)) fun ⟨o, h⟩ => .inr ⟨o, e _ _ h⟩
/-- a dict that may be locked -/
def rDicR (r : Rep α) : Rep (List (Nat × α)) where
  is := fun I v t => ∃ p kvs, v = .ref p ∧ Rd I p (.dK kvs) ∧ Ents kI (r.is I) kvs t
  up := fun e h => by
    obtain ⟨p, kvs, e1, e2, e3⟩ := h
    exact ⟨p, kvs, e1, rd_up e e2, L2.Paired.mapP e3 fun _ _ q => ⟨q.1, r.up e q.2⟩⟩
theorem ev_dKR {r : Rep α} {x : α} {t : List (Nat × α)} {key : Nat} (hu : X.A.units + 1 < cLine) (h1 : Ev ρ X Γ e1 (rDicR r) t) (h2 : Ev true X Γ e2 rNat key) (hx : tget t key = some x) (hs : NoSl e2 := by exact fun _ _ => rfl) : Ev ρ X Γ (.Subscript e1 e2 pos) r x :=
  fun b σ I H fp hS k Q hq => PE.w (pe_dget hu pe_w pe_w hs) (ev_two h1 h2 hS k fun v w I1 H1 E z1 z2 => by
    obtain ⟨p, kvs, rfl, a1, p1⟩ := z1
    cases z2
    rcases p1.get kI_inj key with ⟨_, n⟩ | ⟨u, y, g1, g2, g3⟩
    · rw [n] at hx; cases hx
    · rw [g2] at hx; cases hx
      exact ⟨p, u, rfl, .inl ⟨kvs, kI key, rd_up (vw_in E.ih) a1, rfl, g1.symm⟩, hq u I1 H1 E g3⟩)
theorem et_inKR {r : Rep α} {t : List (Nat × α)} {key : Nat} (hu : X.A.units + 1 < cLine) (h2 : Ev true X Γ e2 rNat key) (h1 : Ev ρ X Γ e1 (rDicR r) t) (hm : behindInMarks .In e1 = false := by rfl) : EvT X Γ (.Compare e2 [.In] [e1] pos) (tget t key).isSome :=
  fun b σ I H fp hS k Q hq => PT.w (pt_cmp (pc_din hu pe_w pe_w) hm) (ev_two h2 h1 hS k fun w v I1 H1 E z2 z1 => by
    obtain ⟨p, kvs, rfl, a1, p1⟩ := z1
    cases z2
    refine ⟨p, _, rfl, .inl ⟨kvs, kI key, rd_up (vw_in E.ih) a1, rfl, rfl⟩, _, rfl, ?_⟩
    rcases p1.get kI_inj key with ⟨n1, n⟩ | ⟨u, y', g1, g2, g3⟩
    · rw [n1]; rw [n] at hq; exact hq I1 H1 E
    · rw [g1]; rw [g2] at hq; exact hq I1 H1 E)
/-- what is known while a dict is locked -/
inductive LkB : B → B → Prop where
  | un {s : B} : LkB s .un
  | dic {α : Type} {r : Rep α} {x : List (Nat × α)} (f : Flat r) : LkB (.pub (rDic r) x) (.pub (rDicR r) x)
  | flat {α : Type} {r : Rep α} {x : α} (f : Flat r) : LkB (.pub r x) (.pub r x)
inductive LkL : List B → List B → Prop where
  | nil : LkL [] []
  | cons {a b : B} {l m : List B} : LkB a b → LkL l m → LkL (a :: l) (b :: m)
theorem LkL.len {Γ Δ : List B} (h : LkL Γ Δ) : Γ.length = Δ.length := by
  induction h with
  | nil => rfl
  | cons _ _ ih => rw [List.length_cons, List.length_cons, ih]
theorem LkL.get {Γ Δ : List B} (h : LkL Γ Δ) : ∀ {i : Nat} {s : B}, Δ[i]? = some s → ∃ t, Γ[i]? = some t ∧ LkB t s := by
  induction h with
  | nil => intro i s q; simp at q
  | @cons a b l m r _ ih =>
    intro i s q
    cases i with
    | zero => rw [List.getElem?_cons_zero] at q; cases q; exact ⟨a, rfl, r⟩
    | succ i => simpa using ih (i := i) (by simpa using q)
theorem Cn.lock {I H : Hp} {σ : L2.St} {fp : Nat → List Addr} {p : Addr} {kvs : List (Key × V)} {od : Obj} (c : Cn b I H σ Γ fp) (l : LkL Γ Γi) (hp : I p = some (.dK kvs)) : Cn b (upd I p (.frz od (.dK kvs))) (upd H p (.frz od (.dK kvs))) σ Γi (fun _ => []) where
  len := by rw [c.len]; exact l.len
  at_ := fun i s q => by
    obtain ⟨t, e, k⟩ := l.get q
    have z := c.at_ i t e
    cases k with
    | un => trivial
    | dic f =>
      obtain ⟨v, e1, q2, kv2, rfl, a2, p2⟩ := z
      refine ⟨_, e1, q2, kv2, rfl, ?_, L2.Paired.mapP p2 fun _ _ z => ⟨z.1, f.any z.2⟩⟩
      by_cases g : q2 = p
      · subst g
        rw [hp] at a2
        cases a2
        exact .inr ⟨od, upd_same⟩
      · exact .inl (by rw [upd_ne g]; exact a2)
    | flat f => obtain ⟨v, e1, z⟩ := z; exact ⟨v, e1, f.any z⟩
  dis := fun i j a m => by simp at m
  prv := fun i a m => by simp at m
  nt := fun i a m => by simp at m
/-- the turns, the dict locked -/
theorem dic_core {r0 : Rep γ} {t : List (Nat × γ)} {r : Rep α} {f : Nat → Bool} {g : Nat → α} {Γt : Nat → List B} {n : Str} {p0 : Pos} (i : Nat) (own : List (Str × Nat)) (is : List Nat) (hg : Γ[i]? = some (.pub (rDic r0) t)) (l : LkL Γ Γi) (fr : Flat r) (hz : t.length < sizeLine)
    (ht : ∀ x ∈ t.map (·.1), Blk X scope fun Y => Tg Y (wipeB Γi (own.map (·.2))) tg is rNat x (Γt x)) (hf : ∀ x ∈ t.map (·.1), Blk X scope fun Y => EvT Y (Γt x) c (f x)) (he : ∀ x ∈ t.map (·.1), f x = true → Blk X scope fun Y => Ev true Y (Γt x) elt r (g x)) (his : ∀ j ∈ is, j ∈ own.map (·.2))
    (hN : X.N[i]? = some n) (hv : Vis X.env.scope n) (hd : (n == ("__debug__" : Str)) = false) (hcd : (n == ("__classdict__" : Str)) = false)
    {σ : L2.St} {I H : Hp} {fp : Nat → List Addr} (hS : Same I H) (k : Cn b I H σ Γ fp) {Q : VK} (hQ : ∀ p vs I' H', Ext I H I' H' → H p = none → I' p = none → H' p = some (.lst vs) → Paired (r.is I') vs (((t.map (·.1)).filter f).map g) → Q (.ref p) H') :
    ∃ d u, H d = some u ∧ Mut (some u) ∧ ∀ od, tLc (iKeys (wE X (.Name n p0))) (bG X scope tg) (bT X scope c) (bE X scope elt) (own.map (·.2)) σ (upd H d (.frz od u)) fun v H' => H' d = some (.frz od u) ∧ Q v (upd H' d u) := by
  obtain ⟨v, e1, p, kvs, rfl, a1, p1⟩ := k.get_pub hg
  refine ⟨p, .dK kvs, hS _ _ a1, trivial, fun od => ?_⟩
  have cL := k.lock (od := od) l a1
  have sL : Same (upd I p (.frz od (.dK kvs))) (upd H p (.frz od (.dK kvs))) := fun x u e => by
    by_cases z : x = p
    · subst z; rw [upd_same] at e ⊢; exact e
    · rw [upd_ne z] at e ⊢; exact hS _ _ e
  refine PE.w (pv i hN hv hd hcd) ⟨_, e1, p, od, rfl, .inl ⟨kvs, upd_same, fun Dl hD => ?_⟩⟩
  have hlen : kvs.length = t.length := p1.length
  refine lc_it walk_keys (fun i H' => LcInv X (upd I p (.frz od (.dK kvs))) (upd H p (.frz od (.dK kvs))) r Dl ((((t.map (·.1)).take i).filter f).map g) H') ⟨_, [], Ext.own sL hD, sL.free hD, upd_same, by rw [List.take_zero]; exact .nil⟩ (fun i H' _ ⟨I', vs', E', _, _, _⟩ => E'.hh _ _ upd_same) ?_ ?_
  · rintro i' v H' H'' hi' ⟨I', vs', E', n', l', p'⟩ ⟨rfl, kk, v', hk, rfl⟩
    rw [hlen] at hi'
    obtain ⟨y, hy, hy2⟩ := prd_get' p1 hk
    have hk2 : kk = kI y.1 := hy2.1
    subst hk2
    have hx : (t.map (·.1))[i']? = some y.1 := by rw [List.getElem?_map, hy]; rfl
    have hm := List.mem_of_getElem? hx
    refine lc_turn (s := rNat) (x := y.1) (t := f y.1) (y := g y.1) (is := is) (own := own) sL cL hD E' n' l' p' (by
      have h1 : (((t.map (·.1)).take i').filter f).length ≤ ((t.map (·.1)).take i').length := List.length_filter_le _ _
      rw [List.length_take, List.length_map] at h1
      rw [List.length_map]; omega) his rfl (ht _ hm) (fun σ2 fp2 c2 Q' q' => fun S1 H5 C1 cl1 fp1 => hf _ hm S1 H5 C1 cl1 fp1 b σ2 I' H'' fp2 E'.ih c2 _ q') (fun hfy => he _ hm hfy) rfl fun H2 h2 => ?_
    rw [List.take_add_one, hx, List.filter_append, List.map_append]
    by_cases q : f y.1 = true
    · rw [if_pos q] at h2
      simpa [List.filter_cons, q] using h2
    · rw [if_neg q] at h2
      simpa [List.filter_cons, q] using h2
  · rintro H' ⟨I', vs', E', n', l', p'⟩
    rw [hlen, show t.length = (t.map (·.1)).length by rw [List.length_map], List.take_length] at p'
    have hpD : Dl ≠ p := fun z => by rw [z, upd_same] at hD; cases hD
    refine ⟨E'.hh _ _ upd_same, ?_⟩
    refine hQ Dl vs' (upd I' p (.dK kvs)) _ ⟨fun x u e => ?_, fun x u e => ?_, fun x u e => ?_, fun x hx n => ?_⟩ ?_ ?_ ?_ ?_
    · by_cases z : x = p
      · subst z; rw [upd_same]; rw [a1] at e; exact e
      · rw [upd_ne z]; exact E'.ii _ _ (by rw [upd_ne z]; exact e)
    · by_cases z : x = p
      · subst z; rw [upd_same]; rw [hS _ _ a1] at e; exact e
      · rw [upd_ne z]; exact E'.hh _ _ (by rw [upd_ne z]; exact e)
    · by_cases z : x = p
      · subst z; rw [upd_same] at e ⊢; exact e
      · rw [upd_ne z] at e ⊢; exact E'.ih _ _ e
    · have z : x ≠ p := fun z => by rw [z, a1] at n; cases n
      rw [upd_ne z]
      exact E'.pr x (by rw [upd_ne z]; exact hx) (by rw [upd_ne z]; exact n)
    · rw [upd_ne hpD] at hD; exact hD
    · rw [upd_ne hpD]; exact n'
    · rw [upd_ne hpD]; exact l'
    · exact L2.Paired.mapP p' fun _ _ z => fr.any z
/-- y = [.. for k in d if ..] -/
theorem run_asgDic {r0 : Rep γ} {t : List (Nat × γ)} {r : Rep α} {f : Nat → Bool} {g : Nat → α} {Γt : Nat → List B} {n m : Str} {p0 p : Pos} {pos2 : Pos} (j i : Nat) (own : List (Str × Nat)) (is : List Nat) (hc : X.calm = true) (hNd : X.N.Nodup) (hg : Γ[i]? = some (.pub (rDic r0) t)) (l : LkL Γ Γi) (fr : Flat r) (hz : t.length < sizeLine)
    (ok : blkC X.N X.env.scope scope own = true)
    (ht : ∀ x ∈ t.map (·.1), Blk X scope fun Y => Tg Y (wipeB Γi (own.map (·.2))) tg is rNat x (Γt x)) (hf : ∀ x ∈ t.map (·.1), Blk X scope fun Y => EvT Y (Γt x) c (f x)) (he : ∀ x ∈ t.map (·.1), f x = true → Blk X scope fun Y => Ev true Y (Γt x) elt r (g x))
    (k : Run b X rest D (Γ.set j (.own (oLst r) (((t.map (·.1)).filter f).map g)))) (his : ∀ j ∈ is, j ∈ own.map (·.2) := by decide)
    (hN : X.N[i]? = some n := by rfl) (hv : Vis X.env.scope n := by first | exact Or.inl rfl | exact Or.inr (Or.inl rfl) | exact Or.inr (Or.inr rfl)) (hd : (n == ("__debug__" : Str)) = false := by decide) (hcd : (n == ("__classdict__" : Str)) = false := by decide)
    (hi : X.N[j]? = some m := by rfl) (hx : X.env.scope.names.lookup m = some .local := by rfl) (hs : ∀ x, foldedSetIterable (.Name n p0) X.env x = pure x := by intro _; rfl)
    (hsw : swapsWith (.ListComp elt [⟨tg, .Name n p0, [c], 0⟩] scope pos2) (some (.Name m p)) pos.line X.env = pure true := by exact sw_true rfl rfl rfl (by decide +kernel)) : Run b X (.Assign [.Name m p] (.ListComp elt [⟨tg, .Name n p0, [c], 0⟩] scope pos2) pos :: rest) D Γ :=
  run_of fun σ I H fp o cn => by
    refine PS.w (ps_lock (ps_setLc hc hNd hi hx hsw (pi_keys pe_w) (blkOk_by ok) bG_ok (fun _ _ _ _ _ => pts_one (bT_ok _ _ _ _ _)) bE_ok hs)) ?_
    exact dic_core (Q := fun v H' => wSs X rest D (σ.set j (some v)) H') (p0 := p0) i own is hg l fr hz ht hf he his hN hv hd hcd o.ih cn fun p vs I' H' E n1 n2 a z => k _ _ ⟨I', _, o.up E, (cn.up E).putOwn j (o := oLst r) ⟨p, vs, rfl, rfl, a, z⟩ (fun a' m => by
      obtain rfl : a' = p := by simpa using m
      exact new_loc (I' := I') (H' := H') o n1) (fun a' m => by
      obtain rfl : a' = p := by simpa using m
      exact ⟨n2, by rw [a]; exact fun z => nomatch z⟩) fun j a' _ m m2 => by
      obtain rfl : a' = p := by simpa using m
      exact (cn.prv j a' m2).2 n1⟩
end
end T

/-! ## T15 -/
/-! Range objects as values; sorted(a dict with int keys), dict(a list of pairs). -/
namespace T
open PySem PySem.Spec PyProof.Rows L2
section
variable {X : Cx}
theorem cr_rangeO : CallR X (.type "range") (fun vs H Q => ∃ j : Int, vs = [V.int j] ∧ ∀ p, H p = none → Q (.ref p) (upd H p (.rng 0 j))) := by
  intro pins s σ H vs us Q I r h
  obtain ⟨j, rfl, q⟩ := h
  obtain ⟨u1, rfl, ri⟩ := vals1 r
  obtain ⟨t, rfl⟩ := ri
  refine call_range_1 ⟨.ref s.heap.objs.size, upd H s.heap.objs.size (.rng 0 j), I.laid (t' := s.toks + 1 + 1) (fun b o e => Heap.get?_push_of_some _ e) (Nat.le_refl _) ?_, rfl, q _ (I.hok.fresh (Nat.le_refl _))⟩
  exact ⟨s.toks, t, s.toks + 1, Heap.get?_push_size _ rfl⟩
def iRngO (td : TE) : TI := fun σ H R => td σ H fun x H1 => ∃ (a : Addr) (n : Nat), x = .ref a ∧ H1 a = some (.rng 0 (n : Int)) ∧ n < 2 ^ 62 ∧ R (Itr 0 n) H1
theorem pi_rngO {tg e : Expr} {td : TE} (he : PE X e td) : PI X tg e (iRngO td) := by
  refine ⟨fun pins s σ H R I h => thn (he.run pins s σ H _ I h) fun u s1 ⟨x, H1, I1, rx, a, n, ex, hd, hn, q⟩ => ?_⟩
  subst ex
  obtain rfl : u = Value.ref a := rx
  obtain ⟨t, w, v, ho⟩ := (show ObjOk X.prog X.w H1 s1.heap a (.rng 0 (n : Int)) from I1.hok _ _ hd)
  refine wpAny_pyIter_range (a := 0) (b := (n : Int)) (c := 1) (t := t) (u := w) (v := v) ho (small_one (by decide) (by decide) (by omega) (by omega)) ?_
  refine ⟨s1.heap.objs.size, [s1.heap.objs.size], _, _, H1, rfl, I1.kept fun b o e => Heap.get?_push_of_some _ e, turn_range _ 0 n, ?_, fun b hb => ?_, q⟩
  · have e2 : ((n : Nat) : Int) - ((0 : Nat) : Int) = Builtin.Range.rangeSize 0 (n : Int) 1 := by rw [rangeSize_one]; split <;> omega
    have e1 : (0 : Int) + ((0 : Nat) : Int) * 1 = 0 := by simp
    show IsRangeIter _ _ ((0 : Int) + ((0 : Nat) : Int) * 1) (((n : Nat) : Int) - ((0 : Nat) : Int)) 1
    rw [e1, e2]
    exact Heap.get?_push_size _ rfl
  · have e : b = s1.heap.objs.size := by simpa using hb
    subst e
    exact I1.fpOk (Nat.le_refl _) (I1.hok.fresh (Nat.le_refl _))
end
/-- a range object 0, 1, .. below n -/
def rRng : Rep Nat := ⟨fun I v n => ∃ p, v = .ref p ∧ I p = some (.rng 0 (n : Int)), fun e h => by obtain ⟨p, e1, e2⟩ := h; exact ⟨p, e1, e _ _ e2⟩⟩
section
variable {α β : Type} {ρ ρ' : Bool} {b : Bs} {X : Cx} {Γ : List B} {e tg elt : Expr} {pos : Pos} {scope : Scope} {r : Rep α}
theorem ev_rangeO {n : Nat} {p : Pos} (hm : X.mg "range" = none) (h : Ev true X Γ e rNat n) (hg : Gl X "range" := by rfl) (hs : starEach [e] X.env = (false, eval e X.env) :: starEach [] X.env := by rfl) (hp : (backTo pos (starEach [] X.env)).any (·.1) = false := by rfl) : Ev true X Γ (.Call (.Name "range" p) [e] [] pos) rRng n :=
  ev_ty cr_rangeO hg hm (by decide +kernel) (ef_one h hs) (fun vs I H fp Q s s2 z q => by
    obtain ⟨v, rfl, z⟩ := z
    cases z
    exact ⟨_, rfl, fun a ha => q _ (upd I a (.rng 0 (n : Int))) _ (Ext.new s ha) ⟨a, rfl, upd_same⟩⟩) (by decide) (by decide) hs hp
theorem lc_rng {n : Nat} {g : Nat → α} {Γt : Nat → List B} (own : List (Str × Nat)) (is : List Nat) (hc : X.calm = true) (hN : X.N.Nodup) (hE : Ev true X Γ e rRng n) (hz : n < sizeLine) (ok : blkC X.N X.env.scope scope own = true)
    (ht : ∀ x, x < n → Blk X scope fun Y => Tg Y (wipeB Γ (own.map (·.2))) tg is rNat x (Γt x)) (he : ∀ x, x < n → Blk X scope fun Y => Ev true Y (Γt x) elt r (g x)) (his : ∀ j ∈ is, j ∈ own.map (·.2) := by decide)
    (hs : ∀ x, foldedSetIterable e X.env x = pure x := by intro _; rfl) : LcN X Γ (.ListComp elt [⟨tg, e, [], 0⟩] scope pos) r ((List.range n).map g) :=
  ⟨elt, tg, _, [], scope, pos, own, iRngO (wE X e), bG X scope tg, tYes, bE X scope elt, rfl, hc, hN, pi_rngO pe_w, blkOk_by ok, bG_ok, fun _ _ _ _ _ => pts_nil, bE_ok, hs,
  fun b σ I H fp s1 k Q q => hE b σ I H fp s1 k _ fun v I1 H1 E z => by
    obtain ⟨a, rfl, za⟩ := z
    have hs : sizeLine < 2 ^ 62 := by rw [sizeLine_eq]; decide
    refine ⟨a, n, rfl, E.ih _ _ za, by omega, fun Dl hD => lc_range (lo := 0) (n := n) (fun i H' => LcInv X I1 H1 r Dl ((List.range i).map g) H') ⟨I1, [], Ext.own E.ih hD, E.ih.free hD, upd_same, .nil⟩ (fun i H' hi ⟨I', vs', E', n', l', p'⟩ => ?_) (fun H' ⟨I', vs', E', n', l', p'⟩ => q Dl vs' I' H' (E.trans E') (E.hh.free hD) n' l' p')⟩
    refine lc_turn (s := rNat) (x := i) (t := true) (y := g i) (is := is) (own := own) E.ih (k.up E) hD E' n' l' p' (by rw [List.length_map, List.length_range]; omega) his (by show V.int (0 + (i : Int)) = V.int (i : Int); rw [Int.zero_add]) (ht i hi) (fun σ2 fp2 c2 Q' q' => tYes_ok E'.ih q') (fun _ => he i hi) rfl fun H2 h2 => ?_
    rw [List.range_succ, List.map_append]
    rw [if_pos rfl] at h2
    exact h2⟩
theorem ents_keysI {R : V → α → Prop} {kvs : List (Key × V)} {t : List (Nat × α)} (p1 : Ents kI R kvs t) : kvs.map (·.1) = (t.map fun x => (x.1 : Int)).map Sum.inl := by
  unfold Ents at p1
  induction p1 with
  | nil => rfl
  | cons a _ ih => rw [List.map_cons, List.map_cons, List.map_cons, ih, a.1]; rfl
/-- sorted(d): the int keys in order -/
theorem ev_sortK {t : List (Nat × α)} {p : Pos} (hcalm : X.calm = true) (hm : X.mg "sorted" = none) (h : Ev ρ X Γ e (rDic r) t) (hz : t.length < 64) (hg : Gl X "sorted" := by rfl) (hs : starEach [e] X.env = (false, eval e X.env) :: starEach [] X.env := by rfl) (hp : (backTo pos (starEach [] X.env)).any (·.1) = false := by rfl) : EvN X Γ (.Call (.Name "sorted" p) [e] [] pos) (oLst rNat) ((t.map (·.1)).mergeSort (fun a b => decide (a ≤ b))) :=
  fun b σ I H fp hS k Q hq => PE.w (pe_callB (call_sortedDI hcalm) hg hm (by decide +kernel) (pa_cons pe_w pa_nil hs) (by decide) (by decide) hs hp) (h b σ I H fp hS k _ fun v I1 H1 E z => by
    obtain ⟨q, kvs, rfl, a1, p1⟩ := z
    have hk := ents_keysI p1
    refine ⟨q, kvs, _, rfl, .inl (vw_in E.ih _ _ a1), hk, by rw [List.length_map]; exact hz, fun ys l hpm hsr hl => ?_⟩
    have hnn : ∀ y ∈ ys, (0 : Int) ≤ y := fun y m => by
      obtain ⟨x, _, rfl⟩ := List.mem_map.mp (hpm.mem_iff.mp m)
      exact Int.natCast_nonneg _
    have e1 : ys.map Int.toNat = (t.map (·.1)).mergeSort (fun a b => decide (a ≤ b)) := by
      refine List.Perm.eq_of_pairwise (le := fun a b => decide (a ≤ b) = true) (fun a b _ _ h1 h2 => ?_) ?_ (List.pairwise_mergeSort (fun a b c h1 h2 => ?_) (fun a b => ?_) _) ?_
      · have h1 := of_decide_eq_true h1
        have h2 := of_decide_eq_true h2
        omega
      · rw [List.pairwise_map]
        refine hsr.imp fun {x y} hxy => decide_eq_true ?_
        omega
      · have h1 := of_decide_eq_true h1
        have h2 := of_decide_eq_true h2
        exact decide_eq_true (by omega)
      · rw [Bool.or_eq_true, decide_eq_true_iff, decide_eq_true_iff]; omega
      · refine List.Perm.trans ?_ (List.mergeSort_perm _ _).symm
        have := hpm.map Int.toNat
        rw [List.map_map] at this
        exact this
    refine hq _ I1 _ [l] (E.trans (Ext.own E.ih hl)) ⟨l, _, rfl, rfl, upd_same, ?_⟩ fun a' m => ?_
    · rw [← e1]
      clear hq hpm hsr e1 h
      induction ys with
      | nil => exact .nil
      | cons y ys ih =>
        refine .cons ?_ (ih fun z m => hnn z (List.mem_cons_of_mem _ m))
        have := hnn y (by simp)
        show V.int y = V.int ((y.toNat : Nat) : Int)
        rw [Int.toNat_of_nonneg this]
    · obtain rfl : a' = l := by simpa using m
      exact ⟨E.hh.free hl, E.ih.free hl, by rw [upd_same]; exact fun z => nomatch z⟩)
theorem merge_ents {I : Hp} : ∀ {kvs : List (Key × V)} {t : List (Nat × α)} {kvs0 : List (Key × V)} {t0 : List (Nat × α)}, Ents kI (r.is I) kvs t → Ents kI (r.is I) kvs0 t0 → Ents kI (r.is I) (mergeK kvs0 kvs) (t.foldl (fun d p => tput d p.1 p.2) t0) := by
  intro kvs t kvs0 t0 h h0
  unfold Ents at h
  induction h generalizing kvs0 t0 with
  | nil => exact h0
  | @cons p q ps qs e _ ih =>
    obtain ⟨k, v⟩ := p
    have e1 : k = kI q.1 := e.1
    subst e1
    exact ih (Ents.put kI_inj h0 q.1 e.2)
/-- dict(a list of pairs) -/
theorem ev_dictP {t : List (Nat × α)} {p : Pos} (hcalm : X.calm = true) (hm : X.mg "dict" = none) (h : Ev true X Γ e (rLst (r2 rNat r)) t) (hg : Gl X "dict" := by rfl) (hs : starEach [e] X.env = (false, eval e X.env) :: starEach [] X.env := by rfl) (hp : (backTo pos (starEach [] X.env)).any (·.1) = false := by rfl) : EvN X Γ (.Call (.Name "dict" p) [e] [] pos) (oDic r) (t.foldl (fun d p => tput d p.1 p.2) []) :=
  fun b σ I H fp hS k Q hq => PE.w (pe_callTy (call_dictP hcalm) hg hm (by decide +kernel) pa_w (by decide) (by decide) hs hp) (PA.w (pa_cons pe_w pa_nil hs) (h b σ I H fp hS k _ fun v I1 H1 E z => by
    obtain ⟨q, vs, rfl, a1, p1⟩ := z
    have key : ∃ (ps : List Addr) (kvs : List (Key × V)), vs = ps.map V.ref ∧ Paired (fun p (kv : Key × V) => SqT X.K H1 p [kV kv.1, kv.2]) ps kvs ∧ Ents kI (r.is I1) kvs t := by
      clear a1 hq h
      induction p1 with
      | nil => exact ⟨[], [], rfl, .nil, .nil⟩
      | @cons v x vs xs hv _ ih =>
        obtain ⟨ps, kvs, e1, e2, e3⟩ := ih
        obtain ⟨a, ws, rfl, ha, w1, ws1, rfl, hk, w2, rfl, hr⟩ := hv
        refine ⟨a :: ps, (kI x.1, w2) :: kvs, by rw [e1]; rfl, .cons (SqT.of ?_) e2, .cons ⟨rfl, hr⟩ e3⟩
        have := E.ih _ _ ha
        have hk : w1 = V.int (x.1 : Int) := hk
        rw [hk] at this
        exact this
    obtain ⟨ps, kvs, rfl, e2, e3⟩ := key
    refine ⟨q, ps, kvs, rfl, SqL.of (E.ih _ _ a1), e2, fun l hl => ?_⟩
    refine hq _ I1 _ [l] (E.trans (Ext.own E.ih hl)) ⟨l, _, rfl, rfl, upd_same, merge_ents e3 .nil⟩ fun a' m => ?_
    obtain rfl : a' = l := by simpa using m
    exact ⟨E.hh.free hl, E.ih.free hl, by rw [upd_same]; exact fun z => nomatch z⟩))
/-- what is owned holds no reference -/
def FlatO {δ : Type} (o : Own δ) : Prop := ∀ {I J H : Hp} {v : V} {f : List Addr} {x : δ}, o.is I H v f x → o.is J H v f x
theorem flat_oDic {r : Rep α} (h : Flat r) : FlatO (oDic r) := fun z => by
  obtain ⟨p, kvs, e1, e2, e3, e4⟩ := z
  exact ⟨p, kvs, e1, e2, e3, L2.Paired.mapP e4 fun _ _ q => ⟨q.1, h.any q.2⟩⟩
theorem ev_callNF {δ : Type} {n : Str} {k0 : Nat} {ps : List Str} {f : Fld β} {o : Own δ} {pre : β → Prop} {gg : β → δ} {y : β} {z : δ} {es : List Expr} {p : Pos} (fo : FlatO o) (F : Cal X.prog X.w X.K X.mg X.base n k0 ps (spN f o pre (fun x y => y = gg x))) (hr : Room k0 X.A) (ha : EvF ρ X Γ (e :: es) f y) (hx : pre y) (hz : gg y = z := by rfl) (hg : Gl X n := by rfl) (hdb : (n == ("__debug__" : Str)) = false := by decide)
    (he : starEach (e :: es) X.env = (false, eval e X.env) :: starEach es X.env := by rfl) (hp : (backTo pos (starEach es X.env)).any (·.1) = false := by rfl) : EvN X Γ (.Call (.Name n p) (e :: es) [] pos) o z := by
  obtain ⟨fa, fd, F, hm, hk, hb⟩ := F.ex
  exact fun b σ I H fp hS k Q hq => PE.w (pe_call F hr hg hm hk hb .nil pass0 pa_w hdb he hp) (ha b σ I H fp hS k _ fun vs I1 H1 E w => by
    refine ⟨y, vw ρ I1 H1 fp, vw_in E.ih, by rw [List.append_nil]; exact w, hx, fun u I' H' z' gs E2 z2 hgs hp => ?_⟩
    subst hp
    rw [hz] at z2
    refine hq u I1 H' gs (E.trans ⟨Same.refl _, E2.hh, E.ih.trans E2.hh, fun _ _ n => n⟩) (fo z2) fun a m => ⟨E.hh.free (hgs a m).1, E.ih.free (hgs a m).1, (hgs a m).2.2⟩)
end
end T

/-! ## T16 -/
/-! The script; isinstance(x, list); a power; moving an owned object. -/
namespace T
open PySem PySem.Spec PyProof.Rows L2
/-- the script: a list of ints, perhaps of the written part -/
def rScr (K : PySem.W.Frag) : Rep (List Int) := ⟨fun I v ns => ∃ a, v = .ref a ∧ SqL K I a (ns.map V.int), fun e h => by
  obtain ⟨a, e1, h⟩ := h
  exact ⟨a, e1, h.elim (fun h => .inl (rd_up e h)) .inr⟩⟩
section
variable {α β : Type} {ρ ρ' : Bool} {b : Bs} {X : Cx} {Γ : List B} {e e2 : Expr} {es : List Expr} {pos : Pos} {r : Rep α} {rest : List Stmt} {D : Ends}
theorem sql_up {K : PySem.W.Frag} {I J : Hp} {a : Addr} {xs : List V} (e : Same I J) (h : SqL K I a xs) : SqL K J a xs := h.elim (fun h => .inl (rd_up e h)) .inr
theorem ints_prd {I : Hp} : ∀ ns : List Int, Paired (rInt.is I) (ns.map V.int) ns
  | [] => .nil
  | n :: ns => .cons rfl (ints_prd ns)
theorem ev_lenS {ns : List Int} {p : Pos} (hm : X.mg "len" = none) (h : Ev true X Γ e (rScr X.K) ns) (hg : Gl X "len" := by rfl) (hs : starEach [e] X.env = (false, eval e X.env) :: starEach [] X.env := by rfl) (hp : (backTo pos (starEach [] X.env)).any (·.1) = false := by rfl) : Ev true X Γ (.Call (.Name "len" p) [e] [] pos) rNat ns.length :=
  ev_blt call_len_seq hg hm PySem.boot_len (ef_one h hs) (fun vs I H fp Q s s2 z q => by
    obtain ⟨v, rfl, a, rfl, h1⟩ := z
    exact ⟨a, _, rfl, .inl (sql_up s2 h1), by rw [List.length_map]; exact q _ I H (Ext.refl s) rfl⟩) (by decide) (by decide) hs hp
theorem ev_takeS {ns : List Int} {n : Nat} {p2 : Pos} (h1 : Ev true X Γ e (rScr X.K) ns) (h2 : Ev true X Γ e2 rNat n) : EvN X Γ (.Subscript e (.Slice none (some e2) none p2) pos) (oLst rInt) (ns.take n) :=
  fun b σ I H fp hS k Q hq => PE.w (pe_slice sl_list pe_w po_none (po_some pe_w)) (h1 b σ I H fp hS k _ fun v I1 H1 E z => by
    obtain ⟨p, rfl, a1⟩ := z
    refine h2 b σ I1 H1 fp E.ih (k.up E) _ fun w I2 H2 E2 z2 => ?_
    cases z2
    refine ⟨_, rfl, p, _, rfl, sql_up (E.ih.trans E2.hh) a1, fun q hq' => ?_⟩
    rw [cut_take, ← List.map_take]
    refine hq _ I2 _ [q] ((E.trans E2).trans (Ext.own E2.ih hq')) ⟨q, _, rfl, rfl, upd_same, ints_prd _⟩ fun a m => ?_
    obtain rfl : a = q := by simpa using m
    exact ⟨(E.trans E2).hh.free hq', E2.ih.free hq', by rw [upd_same]; exact fun z => nomatch z⟩)
theorem ev_isList {xs : List α} {p p2 : Pos} (hm : X.mg "isinstance" = none) (hm2 : X.mg "list" = none) (h : Ev ρ X Γ e (rLst r) xs) (hg : Gl X "isinstance" := by rfl) (hg2 : Gl X "list" := by rfl) (hs : starEach [e, .Name "list" p2] X.env = (false, eval e X.env) :: starEach [.Name "list" p2] X.env := by rfl)
    (hs2 : starEach [.Name "list" p2] X.env = (false, eval (.Name "list" p2) X.env) :: starEach [] X.env := by rfl) (hp : (backTo pos (starEach [.Name "list" p2] X.env)).any (·.1) = false := by rfl) : Ev true X Γ (.Call (.Name "isinstance" p) [e, .Name "list" p2] [] pos) rBl true :=
  fun b σ I H fp hS k Q hq => PE.w (pe_callB call_isi hg hm (by decide +kernel) (pa_cons pe_w (pa_cons (pe_bltn hg2 hm2 (v := .ty "list") (u := .type "list") (by decide +kernel) rfl) pa_nil hs2) hs) (by decide) (by decide) hs hp) (h b σ I H fp hS k _ fun v I1 H1 E z => by
    obtain ⟨a, vs, rfl, h1, h2⟩ := z
    exact ⟨_, _, _, _, true, rfl, .ty _, .base (.lst (vw_in E.ih _ _ h1)), kit_ty (by decide +kernel), hq _ I1 H1 E rfl⟩)
theorem ev_pow {i j : Int} (h1 : Ev true X Γ e rInt i) (h2 : Ev true X Γ e2 rInt j) (hc : CPow i j) : Ev true X Γ (.BinOp e .Pow e2 pos) rInt (i ^ j.toNat) := ev_binI op_pow h1 h2 hc
/-- a slot is known no more -/
theorem Cn.forget {I H : Hp} {σ : L2.St} {fp : Nat → List Addr} (c : Cn b I H σ Γ fp) (i : Nat) : Cn b I H σ (Γ.set i .un) (fun l => if l = i then [] else fp l) where
  len := by rw [List.length_set, c.len]
  at_ := fun l s e => by
    by_cases e2 : i = l
    · subst e2
      have hi : i < Γ.length := by
        have := (List.getElem?_eq_some_iff.mp e).1
        rwa [List.length_set] at this
      rw [List.getElem?_set_self hi] at e
      cases e; trivial
    · rw [List.getElem?_set_ne e2] at e
      rw [if_neg (fun z => e2 z.symm)]
      exact c.at_ l s e
  dis := fun l k x h1 h2 => by
    split at h1
    · simp at h1
    · split at h2
      · simp at h2
      · exact c.dis l k x h1 h2
  prv := fun l x h1 => by
    split at h1
    · simp at h1
    · exact c.prv l x h1
  nt := fun l x h1 => by
    split at h1
    · simp at h1
    · exact c.nt l x h1
/-- y = x, x owned: it is y's from here on -/
theorem run_move {n m : Str} {p p2 : Pos} {o : Own α} {x : α} (i j : Nat) (hij : i ≠ j) (hNd : X.N.Nodup) (g : Γ[i]? = some (.own o x)) (k : Run b X rest D ((Γ.set i .un).set j (.own o x))) (hN : X.N[i]? = some n := by rfl) (hN2 : X.N[j]? = some m := by rfl) (hv : Vis X.env.scope n := by first | exact Or.inl rfl | exact Or.inr (Or.inl rfl) | exact Or.inr (Or.inr rfl))
    (hx : Loc X.env.scope m := by first | exact Or.inl rfl | exact Or.inr rfl) (hf : X.fn m = true ∨ X.env.scope.names.lookup m = some .local := by first | exact .inl rfl | exact .inr rfl)
    (hd : (n == ("__debug__" : Str)) = false := by decide) (hcd : (n == ("__classdict__" : Str)) = false := by decide) (hs : swapsWith (.Name n p) (some (.Name m p2)) pos.line X.env = pure false := by rfl) : Run b X (.Assign [.Name m p2] (.Name n p) pos :: rest) D Γ :=
  run_of fun σ I H fp ok c => by
    obtain ⟨v, e1, e2, e3⟩ := c.get_own g
    refine PS.w (ps_set (i := j) hNd hN2 hx (pv i hN hv hd hcd) hs hf) ⟨v, e1, ?_⟩
    refine k _ _ ⟨I, _, ok, (c.forget i).putOwn j e2 e3 (fun a m => c.prv i a m) fun l a hl m m2 => ?_⟩
    by_cases z : l = i
    · rw [if_pos z] at m2; simp at m2
    · rw [if_neg z] at m2; exact z (c.dis l i a m2 m)
/-- a, b, .. = a call that changes something -/
theorem run_unpM {δ : Type} {s : Rep δ} {P : δ → List B → Prop} {tg : Expr} (h : EvM b X Γ e s P) (k : ∀ z Γ', P z Γ' → ∃ is Γ1, Tg X Γ' tg is s z Γ1 ∧ Run b X rest D Γ1) (hs : swapsWithSole [tg] e pos.line X.env = pure false := by rfl) (hw : swappedStores [tg] e X.env = pure none := by rfl)
    (h1 : (assignEach [tg] X.env).map (·.2) = [assign tg X.env] := by rfl) : Run b X (.Assign [tg] e pos :: rest) D Γ :=
  run_of fun σ I H fp o c => PS.w (ps_asg pe_w pg_w hs hw h1) (h σ I H fp o c _ fun v I' H' fp' z Γ' o2 c2 _ r q => by
    obtain ⟨is, Γ1, ht, hk⟩ := k z Γ' q
    exact ht b σ I' H' fp' v o2.ih c2 r _ fun σ' fp'' c' _ _ _ => hk _ _ ⟨I', fp'', o2, c'⟩)
end
end T

/-! ## D0 -/
/-! The defs of the row's text, and what the top leaves. -/
namespace Ov
open PySem PySem.Spec PyProof.Rows L2 T
def top (i : Nat) : Stmt := PySem.Challenge.pw_overpasses_k44_whole_answers_behind_edit.main.body.getD i (.Pass ⟨0, 0, 0, 0⟩)
abbrev s_first_fault : Stmt := top 10
abbrev s_ranks : Stmt := top 11
abbrev s_joined : Stmt := top 12
abbrev s_take_out : Stmt := top 13
abbrev s_link_index : Stmt := top 15
abbrev s_link_price : Stmt := top 16
abbrev s_road_sum : Stmt := top 17
abbrev s_upper : Stmt := top 19
abbrev s_pairs : Stmt := top 20
abbrev s_link_prices : Stmt := top 22
abbrev s_triangles : Stmt := top 23
abbrev s_total_fill : Stmt := top 24
abbrev s_best_way : Stmt := top 26
abbrev s_row_of : Stmt := top 27
abbrev s_fill : Stmt := top 28
abbrev s_lower_places : Stmt := top 29
abbrev s_way_of : Stmt := top 31
abbrev s_road_of : Stmt := top 33
abbrev sS_init : Stmt := inClass (top 36) 0
abbrev sS_check : Stmt := inClass (top 36) 1
abbrev sS_set : Stmt := inClass (top 36) 2
abbrev sS_is_due : Stmt := inClass (top 36) 3
abbrev sS_mend : Stmt := inClass (top 36) 4
abbrev sS_edit : Stmt := inClass (top 36) 5
abbrev sS_edit_all : Stmt := inClass (top 36) 6
abbrev sS_undo : Stmt := inClass (top 36) 7
abbrev sS_net : Stmt := inClass (top 36) 9
abbrev sS_filling : Stmt := inClass (top 36) 10
abbrev sS_copy : Stmt := inClass (top 36) 13
abbrev s_open_ways : Stmt := top 38
abbrev s_paper : Stmt := top 39
abbrev s_is_paper : Stmt := top 40
abbrev s_check_answer : Stmt := top 41
abbrev s_check_places : Stmt := top 45
abbrev s_sums_over : Stmt := top 46
abbrev s_up_sums : Stmt := top 47
abbrev s_down_sums : Stmt := top 48
abbrev s_meeting : Stmt := top 49
abbrev s_answer : Stmt := top 50
abbrev s_answers : Stmt := top 51
abbrev s_answer_road : Stmt := top 53
abbrev s_best_sum : Stmt := top 55
abbrev s_grown : Stmt := top 56
abbrev s_entries : Stmt := top 57
abbrev s_labels : Stmt := top 58
abbrev s_label_answer : Stmt := top 59
abbrev s_filled_prices : Stmt := top 61
abbrev s_least : Stmt := top 62
abbrev s_total_prices : Stmt := top 63
abbrev s_upper_of : Stmt := top 65
abbrev s_true_prices : Stmt := top 66
abbrev s_slack_ways : Stmt := top 67
abbrev s_without_slack : Stmt := top 68
abbrev s_law_numbers : Stmt := top 70
abbrev s_law_price : Stmt := top 71
abbrev s_law_net : Stmt := top 72
abbrev s_law_order : Stmt := top 73
abbrev s_law_prices : Stmt := top 74
abbrev s_law_sums : Stmt := top 75
abbrev s_law_road : Stmt := top 76
abbrev s_law_set : Stmt := top 77
abbrev s_law_answers : Stmt := top 78
abbrev s_law_changes : Stmt := top 79
abbrev s_law_edit : Stmt := top 80
abbrev s_law_turn : Stmt := top 81
abbrev s_law : Stmt := top 82
def d_first_fault : He.DefD := ⟨("first_fault", none), "first_fault", "first_fault", defArgs s_first_fault, defBody s_first_fault, defScope s_first_fault, [], []⟩
def d_ranks : He.DefD := ⟨("ranks", none), "ranks", "ranks", defArgs s_ranks, defBody s_ranks, defScope s_ranks, [], []⟩
def d_joined : He.DefD := ⟨("joined", none), "joined", "joined", defArgs s_joined, defBody s_joined, defScope s_joined, [], []⟩
def d_take_out : He.DefD := ⟨("take_out", none), "take_out", "take_out", defArgs s_take_out, defBody s_take_out, defScope s_take_out, [], []⟩
def d_link_index : He.DefD := ⟨("link_index", none), "link_index", "link_index", defArgs s_link_index, defBody s_link_index, defScope s_link_index, [], []⟩
def d_link_price : He.DefD := ⟨("link_price", none), "link_price", "link_price", defArgs s_link_price, defBody s_link_price, defScope s_link_price, [], []⟩
def d_road_sum : He.DefD := ⟨("road_sum", none), "road_sum", "road_sum", defArgs s_road_sum, defBody s_road_sum, defScope s_road_sum, [], []⟩
def d_upper : He.DefD := ⟨("upper", none), "upper", "upper", defArgs s_upper, defBody s_upper, defScope s_upper, [], []⟩
def d_pairs : He.DefD := ⟨("pairs", none), "pairs", "pairs", defArgs s_pairs, defBody s_pairs, defScope s_pairs, [], []⟩
def d_link_prices : He.DefD := ⟨("link_prices", none), "link_prices", "link_prices", defArgs s_link_prices, defBody s_link_prices, defScope s_link_prices, [], []⟩
def d_triangles : He.DefD := ⟨("triangles", none), "triangles", "triangles", defArgs s_triangles, defBody s_triangles, defScope s_triangles, [], []⟩
def d_total_fill : He.DefD := ⟨("total_fill", none), "total", "total", defArgs s_total_fill, defBody s_total_fill, defScope s_total_fill, [], []⟩
def d_best_way : He.DefD := ⟨("best_way", none), "best_way", "best_way", defArgs s_best_way, defBody s_best_way, defScope s_best_way, [], []⟩
def d_row_of : He.DefD := ⟨("row_of", none), "row_of", "row_of", defArgs s_row_of, defBody s_row_of, defScope s_row_of, [], []⟩
def d_fill : He.DefD := ⟨("fill", none), "fill", "fill", defArgs s_fill, defBody s_fill, defScope s_fill, [], []⟩
def d_lower_places : He.DefD := ⟨("lower_places", none), "lower_places", "lower_places", defArgs s_lower_places, defBody s_lower_places, defScope s_lower_places, [], []⟩
def d_way_of : He.DefD := ⟨("way_of", none), "way_of", "way_of", defArgs s_way_of, defBody s_way_of, defScope s_way_of, [], []⟩
def d_road_of : He.DefD := ⟨("road_of", none), "road_of", "road_of", defArgs s_road_of, defBody s_road_of, defScope s_road_of, [], []⟩
def dS_init : He.DefD := ⟨("Session", some "__init__"), "__init__", "Session.__init__", defArgs sS_init, defBody sS_init, defScope sS_init, [], []⟩
def dS_check : He.DefD := ⟨("Session", some "_check"), "_check", "Session._check", defArgs sS_check, defBody sS_check, defScope sS_check, [], []⟩
def dS_set : He.DefD := ⟨("Session", some "_set"), "_set", "Session._set", defArgs sS_set, defBody sS_set, defScope sS_set, [], []⟩
def dS_is_due : He.DefD := ⟨("Session", some "_is_due"), "_is_due", "Session._is_due", defArgs sS_is_due, defBody sS_is_due, defScope sS_is_due, [], []⟩
def dS_mend : He.DefD := ⟨("Session", some "_mend"), "_mend", "Session._mend", defArgs sS_mend, defBody sS_mend, defScope sS_mend, [], []⟩
def dS_edit : He.DefD := ⟨("Session", some "edit"), "edit", "Session.edit", defArgs sS_edit, defBody sS_edit, defScope sS_edit, [], []⟩
def dS_edit_all : He.DefD := ⟨("Session", some "edit_all"), "edit_all", "Session.edit_all", defArgs sS_edit_all, defBody sS_edit_all, defScope sS_edit_all, [], []⟩
def dS_undo : He.DefD := ⟨("Session", some "undo"), "undo", "Session.undo", defArgs sS_undo, defBody sS_undo, defScope sS_undo, [], []⟩
def dS_net : He.DefD := ⟨("Session", some "net"), "net", "Session.net", defArgs sS_net, defBody sS_net, defScope sS_net, [], []⟩
def dS_filling : He.DefD := ⟨("Session", some "filling"), "filling", "Session.filling", defArgs sS_filling, defBody sS_filling, defScope sS_filling, [], []⟩
def dS_copy : He.DefD := ⟨("Session", some "copy"), "copy", "Session.copy", defArgs sS_copy, defBody sS_copy, defScope sS_copy, [], []⟩
def d_open_ways : He.DefD := ⟨("open_ways", none), "open_ways", "open_ways", defArgs s_open_ways, defBody s_open_ways, defScope s_open_ways, [], []⟩
def d_paper : He.DefD := ⟨("paper", none), "paper", "paper", defArgs s_paper, defBody s_paper, defScope s_paper, [], []⟩
def d_is_paper : He.DefD := ⟨("is_paper", none), "is_paper", "is_paper", defArgs s_is_paper, defBody s_is_paper, defScope s_is_paper, [], []⟩
def d_check_answer : He.DefD := ⟨("check_answer", none), "check_answer", "check_answer", defArgs s_check_answer, defBody s_check_answer, defScope s_check_answer, [], []⟩
def d_check_places : He.DefD := ⟨("check_places", none), "check_places", "check_places", defArgs s_check_places, defBody s_check_places, defScope s_check_places, [], []⟩
def d_sums_over : He.DefD := ⟨("sums_over", none), "sums_over", "sums_over", defArgs s_sums_over, defBody s_sums_over, defScope s_sums_over, [], []⟩
def d_up_sums : He.DefD := ⟨("up_sums", none), "up_sums", "up_sums", defArgs s_up_sums, defBody s_up_sums, defScope s_up_sums, [], []⟩
def d_down_sums : He.DefD := ⟨("down_sums", none), "down_sums", "down_sums", defArgs s_down_sums, defBody s_down_sums, defScope s_down_sums, [], []⟩
def d_meeting : He.DefD := ⟨("meeting", none), "meeting", "meeting", defArgs s_meeting, defBody s_meeting, defScope s_meeting, [], []⟩
def d_answer : He.DefD := ⟨("answer", none), "answer", "answer", defArgs s_answer, defBody s_answer, defScope s_answer, [], []⟩
def d_answers : He.DefD := ⟨("answers", none), "answers", "answers", defArgs s_answers, defBody s_answers, defScope s_answers, [], []⟩
def d_answer_road : He.DefD := ⟨("answer_road", none), "answer_road", "answer_road", defArgs s_answer_road, defBody s_answer_road, defScope s_answer_road, [], []⟩
def d_best_sum : He.DefD := ⟨("best_sum", none), "best_sum", "best_sum", defArgs s_best_sum, defBody s_best_sum, defScope s_best_sum, [], []⟩
def d_grown : He.DefD := ⟨("grown", none), "grown", "grown", defArgs s_grown, defBody s_grown, defScope s_grown, [], []⟩
def d_entries : He.DefD := ⟨("entries", none), "entries", "entries", defArgs s_entries, defBody s_entries, defScope s_entries, [], []⟩
def d_labels : He.DefD := ⟨("labels", none), "labels", "labels", defArgs s_labels, defBody s_labels, defScope s_labels, [], []⟩
def d_label_answer : He.DefD := ⟨("label_answer", none), "label_answer", "label_answer", defArgs s_label_answer, defBody s_label_answer, defScope s_label_answer, [], []⟩
def d_filled_prices : He.DefD := ⟨("filled_prices", none), "filled_prices", "filled_prices", defArgs s_filled_prices, defBody s_filled_prices, defScope s_filled_prices, [], []⟩
def d_least : He.DefD := ⟨("least", none), "least", "least", defArgs s_least, defBody s_least, defScope s_least, [], []⟩
def d_total_prices : He.DefD := ⟨("total_prices", none), "total", "total", defArgs s_total_prices, defBody s_total_prices, defScope s_total_prices, [], []⟩
def d_upper_of : He.DefD := ⟨("upper_of", none), "upper_of", "upper_of", defArgs s_upper_of, defBody s_upper_of, defScope s_upper_of, [], []⟩
def d_true_prices : He.DefD := ⟨("true_prices", none), "true_prices", "true_prices", defArgs s_true_prices, defBody s_true_prices, defScope s_true_prices, [], []⟩
def d_slack_ways : He.DefD := ⟨("slack_ways", none), "slack_ways", "slack_ways", defArgs s_slack_ways, defBody s_slack_ways, defScope s_slack_ways, [], []⟩
def d_without_slack : He.DefD := ⟨("without_slack", none), "without_slack", "without_slack", defArgs s_without_slack, defBody s_without_slack, defScope s_without_slack, [], []⟩
def d_law_numbers : He.DefD := ⟨("_law_numbers", none), "_law_numbers", "_law_numbers", defArgs s_law_numbers, defBody s_law_numbers, defScope s_law_numbers, [], []⟩
def d_law_price : He.DefD := ⟨("_law_price", none), "_law_price", "_law_price", defArgs s_law_price, defBody s_law_price, defScope s_law_price, [], []⟩
def d_law_net : He.DefD := ⟨("_law_net", none), "_law_net", "_law_net", defArgs s_law_net, defBody s_law_net, defScope s_law_net, [], []⟩
def d_law_order : He.DefD := ⟨("_law_order", none), "_law_order", "_law_order", defArgs s_law_order, defBody s_law_order, defScope s_law_order, [], []⟩
def d_law_prices : He.DefD := ⟨("_law_prices", none), "_law_prices", "_law_prices", defArgs s_law_prices, defBody s_law_prices, defScope s_law_prices, [], []⟩
def d_law_sums : He.DefD := ⟨("_law_sums", none), "_law_sums", "_law_sums", defArgs s_law_sums, defBody s_law_sums, defScope s_law_sums, [], []⟩
def d_law_road : He.DefD := ⟨("_law_road", none), "_law_road", "_law_road", defArgs s_law_road, defBody s_law_road, defScope s_law_road, [], []⟩
def d_law_set : He.DefD := ⟨("_law_set", none), "_law_set", "_law_set", defArgs s_law_set, defBody s_law_set, defScope s_law_set, [], []⟩
def d_law_answers : He.DefD := ⟨("_law_answers", none), "_law_answers", "_law_answers", defArgs s_law_answers, defBody s_law_answers, defScope s_law_answers, [], []⟩
def d_law_changes : He.DefD := ⟨("_law_changes", none), "_law_changes", "_law_changes", defArgs s_law_changes, defBody s_law_changes, defScope s_law_changes, [], []⟩
def d_law_edit : He.DefD := ⟨("_law_edit", none), "_law_edit", "_law_edit", defArgs s_law_edit, defBody s_law_edit, defScope s_law_edit, [], []⟩
def d_law_turn : He.DefD := ⟨("_law_turn", none), "_law_turn", "_law_turn", defArgs s_law_turn, defBody s_law_turn, defScope s_law_turn, [], []⟩
def d_law : He.DefD := ⟨("law", none), "law", "law", defArgs s_law, defBody s_law, defScope s_law, [], []⟩
def fn0 : List He.DefD := [d_first_fault, d_ranks, d_joined, d_take_out, d_link_index, d_link_price, d_road_sum, d_upper, d_pairs, d_link_prices, d_triangles, d_total_fill, d_best_way, d_row_of, d_fill, d_lower_places, d_way_of, d_road_of, dS_init, dS_check, dS_set, dS_is_due, dS_mend, dS_edit, dS_edit_all, dS_undo, dS_net, dS_filling, dS_copy, d_open_ways]
def fn1 : List He.DefD := [d_paper, d_is_paper, d_check_answer, d_check_places, d_sums_over, d_up_sums, d_down_sums, d_meeting, d_answer, d_answers, d_answer_road, d_best_sum, d_grown, d_entries, d_labels, d_label_answer, d_filled_prices, d_least, d_total_prices, d_upper_of, d_true_prices, d_slack_ways, d_without_slack, d_law_numbers, d_law_price, d_law_net, d_law_order, d_law_prices, d_law_sums, d_law_road]
def fn2 : List He.DefD := [d_law_set, d_law_answers, d_law_changes, d_law_edit, d_law_turn, d_law]
def fn : List He.DefD := fn0 ++ fn1 ++ fn2
def fa0 : List He.Fa := [.glo "first_fault", .glo "ranks", .glo "joined", .glo "take_out", .glo "link_index", .glo "link_price", .glo "road_sum", .glo "upper", .glo "pairs", .glo "link_prices", .glo "triangles", .glo "total_fill", .glo "best_way", .glo "row_of", .glo "fill", .glo "lower_places", .glo "way_of", .glo "road_of", .glo "open_ways", .glo "paper", .glo "is_paper", .glo "check_answer", .glo "check_places", .glo "sums_over", .glo "up_sums", .glo "down_sums", .glo "meeting", .glo "answer", .glo "answers", .glo "answer_road"]
def fa1 : List He.Fa := [.glo "best_sum", .glo "grown", .glo "entries", .glo "labels", .glo "label_answer", .glo "filled_prices", .glo "least", .glo "total_prices", .glo "upper_of", .glo "true_prices", .glo "slack_ways", .glo "without_slack", .glo "_law_numbers", .glo "_law_price", .glo "_law_net", .glo "_law_order", .glo "_law_prices", .glo "_law_sums", .glo "_law_road", .glo "_law_set", .glo "_law_answers", .glo "_law_changes", .glo "_law_edit", .glo "_law_turn", .glo "law", .free "len", .free "range", .free "sorted", .free "min", .free "max"]
def fa2 : List He.Fa := [.free "any", .free "list", .free "dict", .free "reversed", .free "int", .free "abs", .free "isinstance", .int "MOST_PRICE" 1000000, .int "UP" 2, .int "DOWN" 3, .glo "Session", .cls "Session", .mkr "Session", .noat "Session" "_count", .noat "Session" "_order", .noat "Session" "_links", .noat "Session" "_pairs", .noat "Session" "_lower", .noat "Session" "_prices", .noat "Session" "_middles", .noat "Session" "_history", .noat "Session" "_looked", .meth "Session" "_check", .meth "Session" "_set", .meth "Session" "_is_due", .meth "Session" "_mend", .meth "Session" "edit", .meth "Session" "edit_all", .meth "Session" "undo", .meth "Session" "net"]
def fa3 : List He.Fa := [.meth "Session" "filling", .meth "Session" "copy"]
def fa : List He.Fa := fa0 ++ fa1 ++ fa2 ++ fa3
def names0 : List PySem.Str := ["_wall", "OverpassesError", "BadPrice", "NoLink", "NoPlace", "NotAnOrder", "NoPair", "NothingToUndo", "first_fault", "ranks", "joined", "take_out", "link_index", "link_price", "road_sum", "upper", "pairs", "link_prices", "triangles", "total", "total_fill", "best_way", "row_of", "fill", "lower_places", "way_of", "price_of", "road_of", "MOST_PRICE", "Session"]
def names1 : List PySem.Str := ["open_ways", "paper", "is_paper", "check_answer", "UP", "DOWN", "check_places", "sums_over", "up_sums", "down_sums", "meeting", "answer", "answers", "answer_road", "best_sum", "grown", "entries", "labels", "label_answer", "filled_prices", "least", "total_prices", "upper_of", "true_prices", "slack_ways", "without_slack", "_law_numbers", "_law_price", "_law_net", "_law_order"]
def names2 : List PySem.Str := ["_law_prices", "_law_sums", "_law_road", "_law_set", "_law_answers", "_law_changes", "_law_edit", "_law_turn"]
def names : List PySem.Str := names0 ++ names1 ++ names2
/-- what the top has left -/
structure Hd (K : PySem.W.Frag) (mg : Str → Option Value) : Prop where
  c : He.SaysD fa fn K
  h : ∃ hp : Heap, K.In hp ∧ hp.Ns mainGlobals mg
section
variable {K : PySem.W.Frag} {mg : Str → Option Value}
theorem Hd.glo (T : Hd K mg) (i : Nat) {x : Str} (h : fa[i]? = some (.glo x) := by rfl) : mg x = some (.ref (He.ga K x)) := by
  obtain ⟨hp, X, G⟩ := T.h
  exact He.glo_ok X G (T.c.fact i h)
theorem Hd.free (T : Hd K mg) (i : Nat) {x : Str} (h : fa[i]? = some (.free x) := by rfl) : mg x = none := by
  obtain ⟨hp, X, G⟩ := T.h
  exact He.free_ok X G (T.c.fact i h)
theorem Hd.int (T : Hd K mg) (i : Nat) {x : Str} {j : Int} (h : fa[i]? = some (.int x j) := by rfl) : ∃ t, mg x = some (.int j t) := by
  obtain ⟨hp, X, G⟩ := T.h
  exact He.int_ok X G (T.c.fact i h)
theorem Hd.fn (T : Hd K mg) (i : Nat) {d : He.DefD} (h : fn[i]? = some d := by rfl) : ∃ fd, FunD K d.name d.qual d.params d.body d.scope (d.dvs K) (d.kws K) (He.fAd K d.at_) fd := T.c.def_ i h
end
section
variable {K : PySem.W.Frag} {mg : Str → Option Value}
theorem Hd.g_first_fault (T : Hd K mg) : mg "first_fault" = some (.ref (He.ga K "first_fault")) := T.glo 0
theorem Hd.g_ranks (T : Hd K mg) : mg "ranks" = some (.ref (He.ga K "ranks")) := T.glo 1
theorem Hd.g_joined (T : Hd K mg) : mg "joined" = some (.ref (He.ga K "joined")) := T.glo 2
theorem Hd.g_take_out (T : Hd K mg) : mg "take_out" = some (.ref (He.ga K "take_out")) := T.glo 3
theorem Hd.g_link_index (T : Hd K mg) : mg "link_index" = some (.ref (He.ga K "link_index")) := T.glo 4
theorem Hd.g_link_price (T : Hd K mg) : mg "link_price" = some (.ref (He.ga K "link_price")) := T.glo 5
theorem Hd.g_road_sum (T : Hd K mg) : mg "road_sum" = some (.ref (He.ga K "road_sum")) := T.glo 6
theorem Hd.g_upper (T : Hd K mg) : mg "upper" = some (.ref (He.ga K "upper")) := T.glo 7
theorem Hd.g_pairs (T : Hd K mg) : mg "pairs" = some (.ref (He.ga K "pairs")) := T.glo 8
theorem Hd.g_link_prices (T : Hd K mg) : mg "link_prices" = some (.ref (He.ga K "link_prices")) := T.glo 9
theorem Hd.g_triangles (T : Hd K mg) : mg "triangles" = some (.ref (He.ga K "triangles")) := T.glo 10
theorem Hd.g_total_fill (T : Hd K mg) : mg "total_fill" = some (.ref (He.ga K "total_fill")) := T.glo 11
theorem Hd.g_best_way (T : Hd K mg) : mg "best_way" = some (.ref (He.ga K "best_way")) := T.glo 12
theorem Hd.g_row_of (T : Hd K mg) : mg "row_of" = some (.ref (He.ga K "row_of")) := T.glo 13
theorem Hd.g_fill (T : Hd K mg) : mg "fill" = some (.ref (He.ga K "fill")) := T.glo 14
theorem Hd.g_lower_places (T : Hd K mg) : mg "lower_places" = some (.ref (He.ga K "lower_places")) := T.glo 15
theorem Hd.g_way_of (T : Hd K mg) : mg "way_of" = some (.ref (He.ga K "way_of")) := T.glo 16
theorem Hd.g_road_of (T : Hd K mg) : mg "road_of" = some (.ref (He.ga K "road_of")) := T.glo 17
theorem Hd.g_open_ways (T : Hd K mg) : mg "open_ways" = some (.ref (He.ga K "open_ways")) := T.glo 18
theorem Hd.g_paper (T : Hd K mg) : mg "paper" = some (.ref (He.ga K "paper")) := T.glo 19
theorem Hd.g_is_paper (T : Hd K mg) : mg "is_paper" = some (.ref (He.ga K "is_paper")) := T.glo 20
theorem Hd.g_check_answer (T : Hd K mg) : mg "check_answer" = some (.ref (He.ga K "check_answer")) := T.glo 21
theorem Hd.g_check_places (T : Hd K mg) : mg "check_places" = some (.ref (He.ga K "check_places")) := T.glo 22
theorem Hd.g_sums_over (T : Hd K mg) : mg "sums_over" = some (.ref (He.ga K "sums_over")) := T.glo 23
theorem Hd.g_up_sums (T : Hd K mg) : mg "up_sums" = some (.ref (He.ga K "up_sums")) := T.glo 24
theorem Hd.g_down_sums (T : Hd K mg) : mg "down_sums" = some (.ref (He.ga K "down_sums")) := T.glo 25
theorem Hd.g_meeting (T : Hd K mg) : mg "meeting" = some (.ref (He.ga K "meeting")) := T.glo 26
theorem Hd.g_answer (T : Hd K mg) : mg "answer" = some (.ref (He.ga K "answer")) := T.glo 27
theorem Hd.g_answers (T : Hd K mg) : mg "answers" = some (.ref (He.ga K "answers")) := T.glo 28
theorem Hd.g_answer_road (T : Hd K mg) : mg "answer_road" = some (.ref (He.ga K "answer_road")) := T.glo 29
theorem Hd.g_best_sum (T : Hd K mg) : mg "best_sum" = some (.ref (He.ga K "best_sum")) := T.glo 30
theorem Hd.g_grown (T : Hd K mg) : mg "grown" = some (.ref (He.ga K "grown")) := T.glo 31
theorem Hd.g_entries (T : Hd K mg) : mg "entries" = some (.ref (He.ga K "entries")) := T.glo 32
theorem Hd.g_labels (T : Hd K mg) : mg "labels" = some (.ref (He.ga K "labels")) := T.glo 33
theorem Hd.g_label_answer (T : Hd K mg) : mg "label_answer" = some (.ref (He.ga K "label_answer")) := T.glo 34
theorem Hd.g_filled_prices (T : Hd K mg) : mg "filled_prices" = some (.ref (He.ga K "filled_prices")) := T.glo 35
theorem Hd.g_least (T : Hd K mg) : mg "least" = some (.ref (He.ga K "least")) := T.glo 36
theorem Hd.g_total_prices (T : Hd K mg) : mg "total_prices" = some (.ref (He.ga K "total_prices")) := T.glo 37
theorem Hd.g_upper_of (T : Hd K mg) : mg "upper_of" = some (.ref (He.ga K "upper_of")) := T.glo 38
theorem Hd.g_true_prices (T : Hd K mg) : mg "true_prices" = some (.ref (He.ga K "true_prices")) := T.glo 39
theorem Hd.g_slack_ways (T : Hd K mg) : mg "slack_ways" = some (.ref (He.ga K "slack_ways")) := T.glo 40
theorem Hd.g_without_slack (T : Hd K mg) : mg "without_slack" = some (.ref (He.ga K "without_slack")) := T.glo 41
theorem Hd.g_law_numbers (T : Hd K mg) : mg "_law_numbers" = some (.ref (He.ga K "_law_numbers")) := T.glo 42
theorem Hd.g_law_price (T : Hd K mg) : mg "_law_price" = some (.ref (He.ga K "_law_price")) := T.glo 43
theorem Hd.g_law_net (T : Hd K mg) : mg "_law_net" = some (.ref (He.ga K "_law_net")) := T.glo 44
theorem Hd.g_law_order (T : Hd K mg) : mg "_law_order" = some (.ref (He.ga K "_law_order")) := T.glo 45
theorem Hd.g_law_prices (T : Hd K mg) : mg "_law_prices" = some (.ref (He.ga K "_law_prices")) := T.glo 46
theorem Hd.g_law_sums (T : Hd K mg) : mg "_law_sums" = some (.ref (He.ga K "_law_sums")) := T.glo 47
theorem Hd.g_law_road (T : Hd K mg) : mg "_law_road" = some (.ref (He.ga K "_law_road")) := T.glo 48
theorem Hd.g_law_set (T : Hd K mg) : mg "_law_set" = some (.ref (He.ga K "_law_set")) := T.glo 49
theorem Hd.g_law_answers (T : Hd K mg) : mg "_law_answers" = some (.ref (He.ga K "_law_answers")) := T.glo 50
theorem Hd.g_law_changes (T : Hd K mg) : mg "_law_changes" = some (.ref (He.ga K "_law_changes")) := T.glo 51
theorem Hd.g_law_edit (T : Hd K mg) : mg "_law_edit" = some (.ref (He.ga K "_law_edit")) := T.glo 52
theorem Hd.g_law_turn (T : Hd K mg) : mg "_law_turn" = some (.ref (He.ga K "_law_turn")) := T.glo 53
theorem Hd.g_law (T : Hd K mg) : mg "law" = some (.ref (He.ga K "law")) := T.glo 54
theorem Hd.b_len (T : Hd K mg) : mg "len" = none := T.free 55
theorem Hd.b_range (T : Hd K mg) : mg "range" = none := T.free 56
theorem Hd.b_sorted (T : Hd K mg) : mg "sorted" = none := T.free 57
theorem Hd.b_min (T : Hd K mg) : mg "min" = none := T.free 58
theorem Hd.b_max (T : Hd K mg) : mg "max" = none := T.free 59
theorem Hd.b_any (T : Hd K mg) : mg "any" = none := T.free 60
theorem Hd.b_list (T : Hd K mg) : mg "list" = none := T.free 61
theorem Hd.b_dict (T : Hd K mg) : mg "dict" = none := T.free 62
theorem Hd.b_reversed (T : Hd K mg) : mg "reversed" = none := T.free 63
theorem Hd.b_int (T : Hd K mg) : mg "int" = none := T.free 64
theorem Hd.b_abs (T : Hd K mg) : mg "abs" = none := T.free 65
theorem Hd.b_isinstance (T : Hd K mg) : mg "isinstance" = none := T.free 66
theorem Hd.i_MOST_PRICE (T : Hd K mg) : ∃ t, mg "MOST_PRICE" = some (.int 1000000 t) := T.int 67
theorem Hd.i_UP (T : Hd K mg) : ∃ t, mg "UP" = some (.int 2 t) := T.int 68
theorem Hd.i_DOWN (T : Hd K mg) : ∃ t, mg "DOWN" = some (.int 3 t) := T.int 69
theorem Hd.g_Session (T : Hd K mg) : mg "Session" = some (.ref (He.ga K "Session")) := T.glo 70
theorem Hd.f_first_fault (T : Hd K mg) : ∃ fd, FunD K d_first_fault.name d_first_fault.qual (defArgs s_first_fault) (defBody s_first_fault) (defScope s_first_fault) [] [] (He.fAd K d_first_fault.at_) fd := T.fn 0 (d := d_first_fault)
theorem Hd.f_ranks (T : Hd K mg) : ∃ fd, FunD K d_ranks.name d_ranks.qual (defArgs s_ranks) (defBody s_ranks) (defScope s_ranks) [] [] (He.fAd K d_ranks.at_) fd := T.fn 1 (d := d_ranks)
theorem Hd.f_joined (T : Hd K mg) : ∃ fd, FunD K d_joined.name d_joined.qual (defArgs s_joined) (defBody s_joined) (defScope s_joined) [] [] (He.fAd K d_joined.at_) fd := T.fn 2 (d := d_joined)
theorem Hd.f_take_out (T : Hd K mg) : ∃ fd, FunD K d_take_out.name d_take_out.qual (defArgs s_take_out) (defBody s_take_out) (defScope s_take_out) [] [] (He.fAd K d_take_out.at_) fd := T.fn 3 (d := d_take_out)
theorem Hd.f_link_index (T : Hd K mg) : ∃ fd, FunD K d_link_index.name d_link_index.qual (defArgs s_link_index) (defBody s_link_index) (defScope s_link_index) [] [] (He.fAd K d_link_index.at_) fd := T.fn 4 (d := d_link_index)
theorem Hd.f_link_price (T : Hd K mg) : ∃ fd, FunD K d_link_price.name d_link_price.qual (defArgs s_link_price) (defBody s_link_price) (defScope s_link_price) [] [] (He.fAd K d_link_price.at_) fd := T.fn 5 (d := d_link_price)
theorem Hd.f_road_sum (T : Hd K mg) : ∃ fd, FunD K d_road_sum.name d_road_sum.qual (defArgs s_road_sum) (defBody s_road_sum) (defScope s_road_sum) [] [] (He.fAd K d_road_sum.at_) fd := T.fn 6 (d := d_road_sum)
theorem Hd.f_upper (T : Hd K mg) : ∃ fd, FunD K d_upper.name d_upper.qual (defArgs s_upper) (defBody s_upper) (defScope s_upper) [] [] (He.fAd K d_upper.at_) fd := T.fn 7 (d := d_upper)
theorem Hd.f_pairs (T : Hd K mg) : ∃ fd, FunD K d_pairs.name d_pairs.qual (defArgs s_pairs) (defBody s_pairs) (defScope s_pairs) [] [] (He.fAd K d_pairs.at_) fd := T.fn 8 (d := d_pairs)
theorem Hd.f_link_prices (T : Hd K mg) : ∃ fd, FunD K d_link_prices.name d_link_prices.qual (defArgs s_link_prices) (defBody s_link_prices) (defScope s_link_prices) [] [] (He.fAd K d_link_prices.at_) fd := T.fn 9 (d := d_link_prices)
theorem Hd.f_triangles (T : Hd K mg) : ∃ fd, FunD K d_triangles.name d_triangles.qual (defArgs s_triangles) (defBody s_triangles) (defScope s_triangles) [] [] (He.fAd K d_triangles.at_) fd := T.fn 10 (d := d_triangles)
theorem Hd.f_total_fill (T : Hd K mg) : ∃ fd, FunD K d_total_fill.name d_total_fill.qual (defArgs s_total_fill) (defBody s_total_fill) (defScope s_total_fill) [] [] (He.fAd K d_total_fill.at_) fd := T.fn 11 (d := d_total_fill)
theorem Hd.f_best_way (T : Hd K mg) : ∃ fd, FunD K d_best_way.name d_best_way.qual (defArgs s_best_way) (defBody s_best_way) (defScope s_best_way) [] [] (He.fAd K d_best_way.at_) fd := T.fn 12 (d := d_best_way)
theorem Hd.f_row_of (T : Hd K mg) : ∃ fd, FunD K d_row_of.name d_row_of.qual (defArgs s_row_of) (defBody s_row_of) (defScope s_row_of) [] [] (He.fAd K d_row_of.at_) fd := T.fn 13 (d := d_row_of)
theorem Hd.f_fill (T : Hd K mg) : ∃ fd, FunD K d_fill.name d_fill.qual (defArgs s_fill) (defBody s_fill) (defScope s_fill) [] [] (He.fAd K d_fill.at_) fd := T.fn 14 (d := d_fill)
theorem Hd.f_lower_places (T : Hd K mg) : ∃ fd, FunD K d_lower_places.name d_lower_places.qual (defArgs s_lower_places) (defBody s_lower_places) (defScope s_lower_places) [] [] (He.fAd K d_lower_places.at_) fd := T.fn 15 (d := d_lower_places)
theorem Hd.f_way_of (T : Hd K mg) : ∃ fd, FunD K d_way_of.name d_way_of.qual (defArgs s_way_of) (defBody s_way_of) (defScope s_way_of) [] [] (He.fAd K d_way_of.at_) fd := T.fn 16 (d := d_way_of)
theorem Hd.f_road_of (T : Hd K mg) : ∃ fd, FunD K d_road_of.name d_road_of.qual (defArgs s_road_of) (defBody s_road_of) (defScope s_road_of) [] [] (He.fAd K d_road_of.at_) fd := T.fn 17 (d := d_road_of)
theorem Hd.f_S_init (T : Hd K mg) : ∃ fd, FunD K dS_init.name dS_init.qual (defArgs sS_init) (defBody sS_init) (defScope sS_init) [] [] (He.fAd K dS_init.at_) fd := T.fn 18 (d := dS_init)
theorem Hd.f_S_check (T : Hd K mg) : ∃ fd, FunD K dS_check.name dS_check.qual (defArgs sS_check) (defBody sS_check) (defScope sS_check) [] [] (He.fAd K dS_check.at_) fd := T.fn 19 (d := dS_check)
theorem Hd.f_S_set (T : Hd K mg) : ∃ fd, FunD K dS_set.name dS_set.qual (defArgs sS_set) (defBody sS_set) (defScope sS_set) [] [] (He.fAd K dS_set.at_) fd := T.fn 20 (d := dS_set)
theorem Hd.f_S_is_due (T : Hd K mg) : ∃ fd, FunD K dS_is_due.name dS_is_due.qual (defArgs sS_is_due) (defBody sS_is_due) (defScope sS_is_due) [] [] (He.fAd K dS_is_due.at_) fd := T.fn 21 (d := dS_is_due)
theorem Hd.f_S_mend (T : Hd K mg) : ∃ fd, FunD K dS_mend.name dS_mend.qual (defArgs sS_mend) (defBody sS_mend) (defScope sS_mend) [] [] (He.fAd K dS_mend.at_) fd := T.fn 22 (d := dS_mend)
theorem Hd.f_S_edit (T : Hd K mg) : ∃ fd, FunD K dS_edit.name dS_edit.qual (defArgs sS_edit) (defBody sS_edit) (defScope sS_edit) [] [] (He.fAd K dS_edit.at_) fd := T.fn 23 (d := dS_edit)
theorem Hd.f_S_edit_all (T : Hd K mg) : ∃ fd, FunD K dS_edit_all.name dS_edit_all.qual (defArgs sS_edit_all) (defBody sS_edit_all) (defScope sS_edit_all) [] [] (He.fAd K dS_edit_all.at_) fd := T.fn 24 (d := dS_edit_all)
theorem Hd.f_S_undo (T : Hd K mg) : ∃ fd, FunD K dS_undo.name dS_undo.qual (defArgs sS_undo) (defBody sS_undo) (defScope sS_undo) [] [] (He.fAd K dS_undo.at_) fd := T.fn 25 (d := dS_undo)
theorem Hd.f_S_net (T : Hd K mg) : ∃ fd, FunD K dS_net.name dS_net.qual (defArgs sS_net) (defBody sS_net) (defScope sS_net) [] [] (He.fAd K dS_net.at_) fd := T.fn 26 (d := dS_net)
theorem Hd.f_S_filling (T : Hd K mg) : ∃ fd, FunD K dS_filling.name dS_filling.qual (defArgs sS_filling) (defBody sS_filling) (defScope sS_filling) [] [] (He.fAd K dS_filling.at_) fd := T.fn 27 (d := dS_filling)
theorem Hd.f_S_copy (T : Hd K mg) : ∃ fd, FunD K dS_copy.name dS_copy.qual (defArgs sS_copy) (defBody sS_copy) (defScope sS_copy) [] [] (He.fAd K dS_copy.at_) fd := T.fn 28 (d := dS_copy)
theorem Hd.f_open_ways (T : Hd K mg) : ∃ fd, FunD K d_open_ways.name d_open_ways.qual (defArgs s_open_ways) (defBody s_open_ways) (defScope s_open_ways) [] [] (He.fAd K d_open_ways.at_) fd := T.fn 29 (d := d_open_ways)
theorem Hd.f_paper (T : Hd K mg) : ∃ fd, FunD K d_paper.name d_paper.qual (defArgs s_paper) (defBody s_paper) (defScope s_paper) [] [] (He.fAd K d_paper.at_) fd := T.fn 30 (d := d_paper)
theorem Hd.f_is_paper (T : Hd K mg) : ∃ fd, FunD K d_is_paper.name d_is_paper.qual (defArgs s_is_paper) (defBody s_is_paper) (defScope s_is_paper) [] [] (He.fAd K d_is_paper.at_) fd := T.fn 31 (d := d_is_paper)
theorem Hd.f_check_answer (T : Hd K mg) : ∃ fd, FunD K d_check_answer.name d_check_answer.qual (defArgs s_check_answer) (defBody s_check_answer) (defScope s_check_answer) [] [] (He.fAd K d_check_answer.at_) fd := T.fn 32 (d := d_check_answer)
theorem Hd.f_check_places (T : Hd K mg) : ∃ fd, FunD K d_check_places.name d_check_places.qual (defArgs s_check_places) (defBody s_check_places) (defScope s_check_places) [] [] (He.fAd K d_check_places.at_) fd := T.fn 33 (d := d_check_places)
theorem Hd.f_sums_over (T : Hd K mg) : ∃ fd, FunD K d_sums_over.name d_sums_over.qual (defArgs s_sums_over) (defBody s_sums_over) (defScope s_sums_over) [] [] (He.fAd K d_sums_over.at_) fd := T.fn 34 (d := d_sums_over)
theorem Hd.f_up_sums (T : Hd K mg) : ∃ fd, FunD K d_up_sums.name d_up_sums.qual (defArgs s_up_sums) (defBody s_up_sums) (defScope s_up_sums) [] [] (He.fAd K d_up_sums.at_) fd := T.fn 35 (d := d_up_sums)
theorem Hd.f_down_sums (T : Hd K mg) : ∃ fd, FunD K d_down_sums.name d_down_sums.qual (defArgs s_down_sums) (defBody s_down_sums) (defScope s_down_sums) [] [] (He.fAd K d_down_sums.at_) fd := T.fn 36 (d := d_down_sums)
theorem Hd.f_meeting (T : Hd K mg) : ∃ fd, FunD K d_meeting.name d_meeting.qual (defArgs s_meeting) (defBody s_meeting) (defScope s_meeting) [] [] (He.fAd K d_meeting.at_) fd := T.fn 37 (d := d_meeting)
theorem Hd.f_answer (T : Hd K mg) : ∃ fd, FunD K d_answer.name d_answer.qual (defArgs s_answer) (defBody s_answer) (defScope s_answer) [] [] (He.fAd K d_answer.at_) fd := T.fn 38 (d := d_answer)
theorem Hd.f_answers (T : Hd K mg) : ∃ fd, FunD K d_answers.name d_answers.qual (defArgs s_answers) (defBody s_answers) (defScope s_answers) [] [] (He.fAd K d_answers.at_) fd := T.fn 39 (d := d_answers)
theorem Hd.f_answer_road (T : Hd K mg) : ∃ fd, FunD K d_answer_road.name d_answer_road.qual (defArgs s_answer_road) (defBody s_answer_road) (defScope s_answer_road) [] [] (He.fAd K d_answer_road.at_) fd := T.fn 40 (d := d_answer_road)
theorem Hd.f_best_sum (T : Hd K mg) : ∃ fd, FunD K d_best_sum.name d_best_sum.qual (defArgs s_best_sum) (defBody s_best_sum) (defScope s_best_sum) [] [] (He.fAd K d_best_sum.at_) fd := T.fn 41 (d := d_best_sum)
theorem Hd.f_grown (T : Hd K mg) : ∃ fd, FunD K d_grown.name d_grown.qual (defArgs s_grown) (defBody s_grown) (defScope s_grown) [] [] (He.fAd K d_grown.at_) fd := T.fn 42 (d := d_grown)
theorem Hd.f_entries (T : Hd K mg) : ∃ fd, FunD K d_entries.name d_entries.qual (defArgs s_entries) (defBody s_entries) (defScope s_entries) [] [] (He.fAd K d_entries.at_) fd := T.fn 43 (d := d_entries)
theorem Hd.f_labels (T : Hd K mg) : ∃ fd, FunD K d_labels.name d_labels.qual (defArgs s_labels) (defBody s_labels) (defScope s_labels) [] [] (He.fAd K d_labels.at_) fd := T.fn 44 (d := d_labels)
theorem Hd.f_label_answer (T : Hd K mg) : ∃ fd, FunD K d_label_answer.name d_label_answer.qual (defArgs s_label_answer) (defBody s_label_answer) (defScope s_label_answer) [] [] (He.fAd K d_label_answer.at_) fd := T.fn 45 (d := d_label_answer)
theorem Hd.f_filled_prices (T : Hd K mg) : ∃ fd, FunD K d_filled_prices.name d_filled_prices.qual (defArgs s_filled_prices) (defBody s_filled_prices) (defScope s_filled_prices) [] [] (He.fAd K d_filled_prices.at_) fd := T.fn 46 (d := d_filled_prices)
theorem Hd.f_least (T : Hd K mg) : ∃ fd, FunD K d_least.name d_least.qual (defArgs s_least) (defBody s_least) (defScope s_least) [] [] (He.fAd K d_least.at_) fd := T.fn 47 (d := d_least)
theorem Hd.f_total_prices (T : Hd K mg) : ∃ fd, FunD K d_total_prices.name d_total_prices.qual (defArgs s_total_prices) (defBody s_total_prices) (defScope s_total_prices) [] [] (He.fAd K d_total_prices.at_) fd := T.fn 48 (d := d_total_prices)
theorem Hd.f_upper_of (T : Hd K mg) : ∃ fd, FunD K d_upper_of.name d_upper_of.qual (defArgs s_upper_of) (defBody s_upper_of) (defScope s_upper_of) [] [] (He.fAd K d_upper_of.at_) fd := T.fn 49 (d := d_upper_of)
theorem Hd.f_true_prices (T : Hd K mg) : ∃ fd, FunD K d_true_prices.name d_true_prices.qual (defArgs s_true_prices) (defBody s_true_prices) (defScope s_true_prices) [] [] (He.fAd K d_true_prices.at_) fd := T.fn 50 (d := d_true_prices)
theorem Hd.f_slack_ways (T : Hd K mg) : ∃ fd, FunD K d_slack_ways.name d_slack_ways.qual (defArgs s_slack_ways) (defBody s_slack_ways) (defScope s_slack_ways) [] [] (He.fAd K d_slack_ways.at_) fd := T.fn 51 (d := d_slack_ways)
theorem Hd.f_without_slack (T : Hd K mg) : ∃ fd, FunD K d_without_slack.name d_without_slack.qual (defArgs s_without_slack) (defBody s_without_slack) (defScope s_without_slack) [] [] (He.fAd K d_without_slack.at_) fd := T.fn 52 (d := d_without_slack)
theorem Hd.f_law_numbers (T : Hd K mg) : ∃ fd, FunD K d_law_numbers.name d_law_numbers.qual (defArgs s_law_numbers) (defBody s_law_numbers) (defScope s_law_numbers) [] [] (He.fAd K d_law_numbers.at_) fd := T.fn 53 (d := d_law_numbers)
theorem Hd.f_law_price (T : Hd K mg) : ∃ fd, FunD K d_law_price.name d_law_price.qual (defArgs s_law_price) (defBody s_law_price) (defScope s_law_price) [] [] (He.fAd K d_law_price.at_) fd := T.fn 54 (d := d_law_price)
theorem Hd.f_law_net (T : Hd K mg) : ∃ fd, FunD K d_law_net.name d_law_net.qual (defArgs s_law_net) (defBody s_law_net) (defScope s_law_net) [] [] (He.fAd K d_law_net.at_) fd := T.fn 55 (d := d_law_net)
theorem Hd.f_law_order (T : Hd K mg) : ∃ fd, FunD K d_law_order.name d_law_order.qual (defArgs s_law_order) (defBody s_law_order) (defScope s_law_order) [] [] (He.fAd K d_law_order.at_) fd := T.fn 56 (d := d_law_order)
theorem Hd.f_law_prices (T : Hd K mg) : ∃ fd, FunD K d_law_prices.name d_law_prices.qual (defArgs s_law_prices) (defBody s_law_prices) (defScope s_law_prices) [] [] (He.fAd K d_law_prices.at_) fd := T.fn 57 (d := d_law_prices)
theorem Hd.f_law_sums (T : Hd K mg) : ∃ fd, FunD K d_law_sums.name d_law_sums.qual (defArgs s_law_sums) (defBody s_law_sums) (defScope s_law_sums) [] [] (He.fAd K d_law_sums.at_) fd := T.fn 58 (d := d_law_sums)
theorem Hd.f_law_road (T : Hd K mg) : ∃ fd, FunD K d_law_road.name d_law_road.qual (defArgs s_law_road) (defBody s_law_road) (defScope s_law_road) [] [] (He.fAd K d_law_road.at_) fd := T.fn 59 (d := d_law_road)
theorem Hd.f_law_set (T : Hd K mg) : ∃ fd, FunD K d_law_set.name d_law_set.qual (defArgs s_law_set) (defBody s_law_set) (defScope s_law_set) [] [] (He.fAd K d_law_set.at_) fd := T.fn 60 (d := d_law_set)
theorem Hd.f_law_answers (T : Hd K mg) : ∃ fd, FunD K d_law_answers.name d_law_answers.qual (defArgs s_law_answers) (defBody s_law_answers) (defScope s_law_answers) [] [] (He.fAd K d_law_answers.at_) fd := T.fn 61 (d := d_law_answers)
theorem Hd.f_law_changes (T : Hd K mg) : ∃ fd, FunD K d_law_changes.name d_law_changes.qual (defArgs s_law_changes) (defBody s_law_changes) (defScope s_law_changes) [] [] (He.fAd K d_law_changes.at_) fd := T.fn 62 (d := d_law_changes)
theorem Hd.f_law_edit (T : Hd K mg) : ∃ fd, FunD K d_law_edit.name d_law_edit.qual (defArgs s_law_edit) (defBody s_law_edit) (defScope s_law_edit) [] [] (He.fAd K d_law_edit.at_) fd := T.fn 63 (d := d_law_edit)
theorem Hd.f_law_turn (T : Hd K mg) : ∃ fd, FunD K d_law_turn.name d_law_turn.qual (defArgs s_law_turn) (defBody s_law_turn) (defScope s_law_turn) [] [] (He.fAd K d_law_turn.at_) fd := T.fn 64 (d := d_law_turn)
theorem Hd.f_law (T : Hd K mg) : ∃ fd, FunD K d_law.name d_law.qual (defArgs s_law) (defBody s_law) (defScope s_law) [] [] (He.fAd K d_law.at_) fd := T.fn 65 (d := d_law)
end
end Ov

/-! ## W0 -/
/-! Representations of this program's data, facts that the walks ask. -/
namespace Ov
open PySem PySem.Spec PyProof.Rows L2 T
abbrev rLink : Rep Link := rTup (fCons rNat (fCons rNat (fCons rOpt (fOne rOpt))))
abbrev rNet : Rep Net := rTup (fCons rNat (fOne (rLst rLink)))
abbrev fRow : Fld Row := fCons rNat (fCons rNat (fCons rOpt (fCons rOpt (fCons rOpN (fOne rOpN)))))
abbrev rRow : Rep Row := rTup fRow
abbrev rSum : Rep Sum := rTup (fCons rOpt (fOne rOpN))
abbrev rEdit : Rep Edit := rTup (fCons rNat (fCons rNat (fOne rOpt)))
abbrev rWay3 : Rep (Nat × Nat × Int) := rTup (fCons rNat (fCons rNat (fOne rInt)))
theorem ffSum : FFlat (fCons rOpt (fOne rOpN)) := ff_cons fOpt (ff_one fOpN)
theorem ffRow : FFlat fRow := ff_cons fNat (ff_cons fNat (ff_cons fOpt (ff_cons fOpt (ff_cons fOpN (ff_one fOpN)))))
theorem sz_le {n : Nat} (h : n ≤ 16777215) : n < sizeLine := by rw [sizeLine_eq]; omega
theorem sz_le' {n : Nat} (h : n ≤ 16777216) : n ≤ sizeLine := by rw [sizeLine_eq]; omega
end Ov

/-! ## F1 -/
namespace Ov
open PySem PySem.Spec PyProof.Rows L2 T

def seenL (order : List Nat) (n i : Nat) : List Bool := (List.range n).map fun p => decide (p ∈ order.take i)
theorem seenL_set {order : List Nat} {n i x : Nat} (hx : x < n) (e : order[i]? = some x) : (seenL order n i).set x true = seenL order n (i + 1) := by
  unfold seenL
  have h := map_range_set (fun p => decide (p ∈ order.take i)) (fun p => decide (p ∈ order.take (i + 1))) hx (fun j hj => by
    rw [List.take_add_one, e]
    by_cases q : j = x
    · subst q; rw [if_pos rfl]
    · rw [if_neg q]; simp [q])
  rw [← h]
  congr 1
  rw [List.take_add_one, e]
  simp
theorem rep_map (n : Nat) (order : List Nat) : List.replicate n false = seenL order n 0 := by
  unfold seenL
  rw [List.take_zero]
  apply List.ext_getElem?
  intro i
  by_cases h : i < n
  · rw [map_range_get _ h, List.getElem?_replicate, if_pos h]; simp
  · rw [List.getElem?_eq_none (by simp; omega), List.getElem?_eq_none (by simp; omega)]
def rankI (order : List Nat) (n i : Nat) : List Nat := (List.range n).map fun p => if p ∈ order.take i then order.idxOf p else 0
theorem rankI_zero (n : Nat) (order : List Nat) : List.replicate n 0 = rankI order n 0 := by
  unfold rankI
  rw [List.take_zero]
  apply List.ext_getElem?
  intro i
  by_cases h : i < n
  · rw [map_range_get _ h, List.getElem?_replicate, if_pos h]; simp
  · rw [List.getElem?_eq_none (by simp; omega), List.getElem?_eq_none (by simp; omega)]
theorem rankI_set {order : List Nat} {n i x : Nat} (nd : order.Nodup) (hx : x < n) (e : order[i]? = some x) : (rankI order n i).set x i = rankI order n (i + 1) := by
  unfold rankI
  have h := map_range_set (fun p => if p ∈ order.take i then order.idxOf p else 0) (fun p => if p ∈ order.take (i + 1) then order.idxOf p else 0) hx (fun j hj => by
    rw [List.take_add_one, e]
    by_cases q : j = x
    · subst q; rw [if_pos rfl]
    · rw [if_neg q]; simp [q])
  rw [← h]
  congr 1
  rw [List.take_add_one, e]
  simp [idxOf_get nd e]
theorem rankI_end {order : List Nat} {n : Nat} (h : IsOrder n order) : rankI order n n = rankL order := by
  unfold rankI rankL
  rw [h.len]
  apply List.map_congr_left
  intro p hp
  rw [List.take_of_length_le (by rw [h.len]; exact Nat.le_refl _), if_pos (h.all p (List.mem_range.mp hp))]
abbrev C_first_fault (Pg : Program) (Wd : World) (K : PySem.W.Frag) (mg : Str → Option Value) (Bh : Heap) : Prop := Cal Pg Wd K mg Bh "first_fault" 1 ["order"] (spF (fOne (rLst rNat)) rInt (fun order => IsOrder order.length order ∧ order.length ≤ 1000) (fun _ y => y = -1))
set_option maxHeartbeats 2000000 in
theorem c_first_fault {Pg : Program} {Wd : World} {K : PySem.W.Frag} {mg : Str → Option Value} {Bh : Heap} (T : Hd K mg)  : C_first_fault Pg Wd K mg Bh := by
  obtain ⟨fd, F⟩ := T.f_first_fault
  have S : FnScope ["order", "seen", "k"] ["order"] (defScope s_first_fault) := ⟨rfl, rfl, rfl, by decide +kernel, rfl, by decide +kernel, by decide +kernel⟩
  refine fn_ok F S T.g_first_fault (F.bindsN fun _ _ _ _ _ _ us hl => match us, hl with | [_], _ => rfl) rfl (fun cdv Ar ou st0 Hh Ee hr bb De xx hpre hret hnon => ?_)
  obtain ⟨order, rfl⟩ : ∃ y, y = xx := ⟨xx, rfl⟩
  refine ⟨_, .one, ?_⟩
  obtain ⟨ho, hl⟩ := hpre
  refine run_asgN 1 S.nd (ev_rep (EvN.pub (ev_lst (ei_cons (ev_bl (i := false)) ef_nil1) (by decide))) (ev_len T.b_len (ev_pub 0)) (sz_le' (by omega))) ?_
  rw [rep_map order.length order]
  refine run_forR rfl T.b_range (ev_len T.b_len (ev_pub 0)) (by omega) (fun i => [.pub (rLst rNat) order, .own (oLst rBl) (seenL order order.length i), .un]) (Le.refl _) (fun b1 hb i hi => ?_) ?_
  · obtain ⟨x, hx⟩ : ∃ x, order[i]? = some x := ⟨_, List.getElem?_eq_getElem hi⟩
    have hxn : x < order.length := ho.lt x (List.mem_of_getElem? hx)
    have hns := nodup_take ho.nd hx
    refine ⟨_, _, tg_name 2 S.nd, ?_⟩
    refine run_no (EvW.t (ew_or (et_not (et_chain (ev_int (i := 0)) (Ev.int (ev_ix (ev_pub 0) (ev_pub 2) hx)) (Ev.int (ev_len T.b_len (ev_pub 0))))) fun _ => ew_or1 (et_val (ev_ixO 1 rfl (ev_ix (ev_pub 0) (ev_pub 2) hx) (map_range_get _ hxn))))) ?_ ?_
    · simp [hns, hxn]
    · refine run_setL 1 rfl (ev_bl (i := true)) (ev_ix (ev_pub 0) (ev_pub 2) hx) (by simp [seenL]; exact hxn) ?_
      rw [seenL_set hxn hx]
      exact run_last (To.le (.cons .same (.cons .same (.cons .un .nil))) fun _ _ g => g)
  · exact run_ret ev_minus (hret _ _ rfl)
abbrev C_ranks (Pg : Program) (Wd : World) (K : PySem.W.Frag) (mg : Str → Option Value) (Bh : Heap) : Prop := Cal Pg Wd K mg Bh "ranks" 2 ["order"] (spF (fOne (rLst rNat)) (rLst rNat) (fun order => IsOrder order.length order ∧ order.length ≤ 1000) (fun order y => y = rankL order))
set_option maxHeartbeats 2000000 in
theorem c_ranks {Pg : Program} {Wd : World} {K : PySem.W.Frag} {mg : Str → Option Value} {Bh : Heap} (T : Hd K mg) (h_first_fault : C_first_fault Pg Wd K mg Bh) : C_ranks Pg Wd K mg Bh := by
  obtain ⟨fd, F⟩ := T.f_ranks
  have S : FnScope ["order", "fault", "result", "k"] ["order"] (defScope s_ranks) := ⟨rfl, rfl, rfl, by decide +kernel, rfl, by decide +kernel, by decide +kernel⟩
  refine fn_ok F S T.g_ranks (F.bindsN fun _ _ _ _ _ _ us hl => match us, hl with | [_], _ => rfl) rfl (fun cdv Ar ou st0 Hh Ee hr bb De xx hpre hret hnon => ?_)
  obtain ⟨order, rfl⟩ : ∃ y, y = xx := ⟨xx, rfl⟩
  refine ⟨_, .one, ?_⟩
  obtain ⟨ho, hl⟩ := id hpre
  refine run_asg 1 S.nd (ev_callE (g := fun _ => -1) h_first_fault (hr.mono (by decide)) (ef_one (ev_pub 0)) hpre) ?_
  refine run_no (et_ge (ev_pub 1) (ev_int (i := 0))) rfl ?_
  refine run_asgN 2 S.nd (ev_rep (EvN.pub (ev_lst (ei_cons (ev_nat (i := 0)) ef_nil1) (by decide))) (ev_len T.b_len (ev_pub 0)) (sz_le' (by omega))) ?_
  rw [rankI_zero order.length order]
  refine run_forR rfl T.b_range (ev_len T.b_len (ev_pub 0)) (by omega) (fun i => [.pub (rLst rNat) order, .un, .own (oLst rNat) (rankI order order.length i), .un]) (.cons .same (.cons .un (.cons .same (.cons .un .nil)))) (fun b1 hb i hi => ?_) ?_
  · obtain ⟨x, hx⟩ : ∃ x, order[i]? = some x := ⟨_, List.getElem?_eq_getElem hi⟩
    have hxn : x < order.length := ho.lt x (List.mem_of_getElem? hx)
    refine ⟨_, _, tg_name 3 S.nd, ?_⟩
    refine run_setL 2 rfl (ev_pub 3) (ev_ix (ev_pub 0) (ev_pub 3) hx) (by simp [rankI]; exact hxn) ?_
    rw [rankI_set ho.nd hxn hx]
    exact run_last (To.le (.cons .same (.cons .un (.cons .same (.cons .un .nil)))) fun _ _ g => g)
  · rw [rankI_end ho]
    refine run_pub 2 rfl ?_
    exact run_ret (ev_pub 2) (hret _ _ rfl)

theorem linkPrices_len (ls : List Link) (i : Nat) : (linkPrices (ls.take i)).length ≤ 2 * i := by
  have : ∀ (l : List Link) (t : Tab (Option Int)), (l.foldl linkStep t).length ≤ t.length + 2 * l.length := by
    intro l
    induction l with
    | nil => intro t; simp
    | cons a l ih =>
      intro t
      rw [List.foldl_cons, List.length_cons]
      refine Nat.le_trans (ih _) ?_
      have h1 := tput_length (tput t (a.1, a.2.1) a.2.2.1) (a.2.1, a.1) a.2.2.2
      have h2 := tput_length t (a.1, a.2.1) a.2.2.1
      unfold linkStep
      omega
  have h := this (ls.take i) []
  rw [List.length_take] at h
  simp at h
  unfold linkPrices
  omega
abbrev C_link_prices (Pg : Program) (Wd : World) (K : PySem.W.Frag) (mg : Str → Option Value) (Bh : Heap) : Prop := Cal Pg Wd K mg Bh "link_prices" 1 ["net"] (spN (fOne rNet) (oTab rOpt) (fun N => N.2.length ≤ 1000) (fun N y => y = linkPrices N.2))
set_option maxHeartbeats 2000000 in
theorem c_link_prices {Pg : Program} {Wd : World} {K : PySem.W.Frag} {mg : Str → Option Value} {Bh : Heap} (T : Hd K mg)  : C_link_prices Pg Wd K mg Bh := by
  obtain ⟨fd, F⟩ := T.f_link_prices
  have S : FnScope ["net", "prices", "a", "b", "there", "back"] ["net"] (defScope s_link_prices) := ⟨rfl, rfl, rfl, by decide +kernel, rfl, by decide +kernel, by decide +kernel⟩
  refine (fnN_ok F S (F.bindsN fun _ _ _ _ _ _ us hl => match us, hl with | [_], _ => rfl) rfl (fun cdv Ar ou st0 Hh Ee hr bb De xx hpre hret => ?_)).cal T.g_link_prices
  obtain ⟨n, ls⟩ := xx
  refine ⟨_, .one, ?_⟩
  have hl : ls.length ≤ 1000 := hpre
  refine run_asgN 1 S.nd (ev_dicT (r := rOpt)) ?_
  refine run_for rfl (ev_ixT (ev_pub 0) (ev_nat (i := 1)) (.tl .one)) (fun i => [.pub rNet (n, ls), .own (oTab rOpt) (linkPrices (ls.take i)), .un, .un, .un, .un]) (Le.refl _) (fun b1 hb i x hx => ?_) ?_
  · have hi := (List.getElem?_eq_some_iff.mp hx).1
    have h2 := linkPrices_len ls i
    have e : linkPrices (ls.take (i + 1)) = linkStep (linkPrices (ls.take i)) x := by unfold linkPrices; rw [take_foldl hx]
    obtain ⟨a, b, th, bk⟩ := x
    refine ⟨_, _, tg_tup rfl (tgs_cons (tg_name 2 S.nd) (tgs_cons (tg_name 3 S.nd) (tgs_cons (tg_name 4 S.nd) (tgs_one (tg_name 5 S.nd))))), ?_⟩
    refine run_setT 1 (hu_of hr) rfl (ev_pub 4) (ev_tup (ef_cons (ev_pub 2) (ef_one (ev_pub 3)))) (sz_le (by omega)) ?_
    refine run_setT 1 (hu_of hr) rfl (ev_pub 5) (ev_tup (ef_cons (ev_pub 3) (ef_one (ev_pub 2)))) (sz_le (by have := tput_length (linkPrices (ls.take i)) (a, b) th; omega)) ?_
    refine run_last (To.le (Δ := [.pub rNet (n, ls), .own (oTab rOpt) (linkPrices (ls.take (i + 1))), .un, .un, .un, .un]) ?_ fun _ _ g => g)
    rw [e]
    exact .cons .same (.cons .same (.cons .un (.cons .un (.cons .un (.cons .un .nil)))))
  · rw [List.take_length]
    exact run_retN 1 rfl (hret _ rfl)
end Ov

/-! ## F2 -/
namespace Ov
open PySem PySem.Spec PyProof.Rows L2 T

theorem some_of {α : Type} {o : Option α} (h : o.isSome = true) : ∃ x, o = some x := Option.isSome_iff_exists.mp h
theorem gp_of {t : Tab (Option Int)} {x y : Nat} {p : Option Int} (h : tget t (x, y) = some p) : gp t x y = p := by unfold gp; rw [h]; rfl
theorem gm_of {t : Tab (Option Nat)} {x y : Nat} {p : Option Nat} (h : tget t (x, y) = some p) : gm t x y = p := by unfold gm; rw [h]; rfl
abbrev C_total_fill (Pg : Program) (Wd : World) (K : PySem.W.Frag) (mg : Str → Option Value) (Bh : Heap) : Prop := Cal Pg Wd K mg Bh "total_fill" 1 ["prices", "x", "w", "y"] (spF (fCons (rTab rOpt) (fCons rNat (fCons rNat (fOne rNat)))) rOpt (fun a => Has a.1 a.2.1 a.2.2.1 ∧ Has a.1 a.2.2.1 a.2.2.2) (fun a y => y = osum (gp a.1 a.2.1 a.2.2.1) (gp a.1 a.2.2.1 a.2.2.2)))
set_option maxHeartbeats 2000000 in
theorem c_total_fill {Pg : Program} {Wd : World} {K : PySem.W.Frag} {mg : Str → Option Value} {Bh : Heap} (T : Hd K mg)  : C_total_fill Pg Wd K mg Bh := by
  obtain ⟨fd, F⟩ := T.f_total_fill
  have S : FnScope ["prices", "x", "w", "y", "first", "second"] ["prices", "x", "w", "y"] (defScope s_total_fill) := ⟨rfl, rfl, rfl, by decide +kernel, rfl, by decide +kernel, by decide +kernel⟩
  refine fn_ok F S T.g_total_fill (F.bindsN fun _ _ _ _ _ _ us hl => match us, hl with | [_, _, _, _], _ => rfl) rfl (fun cdv Ar ou st0 Hh Ee hr bb De xx hpre hret hnon => ?_)
  obtain ⟨prices, x, w, y⟩ := xx
  refine ⟨_, (.cons (.cons (.cons .one))), ?_⟩
  obtain ⟨h1, h2⟩ := hpre
  obtain ⟨p, hp⟩ := some_of h1
  obtain ⟨q, hq⟩ := some_of h2
  have ep := gp_of hp
  have eq := gp_of hq
  refine run_asg 4 S.nd (ev_dT (hu_of hr) (ev_pub 0) (ev_tup (ef_cons (ev_pub 1) (ef_one (ev_pub 2)))) hp) ?_
  refine run_asg 5 S.nd (ev_dT (hu_of hr) (ev_pub 0) (ev_tup (ef_cons (ev_pub 2) (ef_one (ev_pub 3)))) hq) ?_
  refine run_if (EvW.t (ew_or (et_isN vn_opt (ev_pub 4)) fun _ => ew_or1 (et_isN vn_opt (ev_pub 5)))) (fun hb => run_ret ev_non (hret _ _ ?_)) (fun hb => run_end ?_)
  · show none = osum (gp prices x w) (gp prices w y)
    rw [ep, eq]
    cases p <;> cases q <;> first | rfl | cases hb
  · cases p with
    | none => cases hb
    | some a => cases q with
      | none => cases hb
      | some c =>
        refine run_ret (Ev.opt (ev_add (Ev.unopt (ev_pub 4)) (Ev.unopt (ev_pub 5)))) (hret _ _ ?_)
        show some (a + c) = osum (gp prices x w) (gp prices w y)
        rw [ep, eq]
        rfl

def bwAt (L P : Tab (Option Int)) (places : List Nat) (x y i : Nat) : Sum := (places.take i).foldl (bwStep P x y) (gp L x y, none)
theorem bwAt_succ {L P : Tab (Option Int)} {places : List Nat} {x y i w : Nat} (h : places[i]? = some w) : bwAt L P places x y (i + 1) = bwStep P x y (bwAt L P places x y i) w := by
  unfold bwAt; rw [take_foldl h]
theorem bwAt_end {L P : Tab (Option Int)} {places : List Nat} {x y : Nat} : bwAt L P places x y places.length = bestWay L P places x y := by
  unfold bwAt bestWay; rw [List.take_length]
abbrev C_best_way (Pg : Program) (Wd : World) (K : PySem.W.Frag) (mg : Str → Option Value) (Bh : Heap) : Prop := Cal Pg Wd K mg Bh "best_way" 2 ["links", "prices", "places", "x", "y"] (spF (fCons (rTab rOpt) (fCons (rTab rOpt) (fCons (rLst rNat) (fCons rNat (fOne rNat))))) rSum (fun a => ∀ w ∈ a.2.2.1, Has a.2.1 a.2.2.2.1 w ∧ Has a.2.1 w a.2.2.2.2) (fun a y => y = bestWay a.1 a.2.1 a.2.2.1 a.2.2.2.1 a.2.2.2.2))
set_option maxHeartbeats 2000000 in
theorem c_best_way {Pg : Program} {Wd : World} {K : PySem.W.Frag} {mg : Str → Option Value} {Bh : Heap} (T : Hd K mg) (h_total_fill : C_total_fill Pg Wd K mg Bh) : C_best_way Pg Wd K mg Bh := by
  obtain ⟨fd, F⟩ := T.f_best_way
  have S : FnScope ["links", "prices", "places", "x", "y", "best", "middle", "w", "price"] ["links", "prices", "places", "x", "y"] (defScope s_best_way) := ⟨rfl, rfl, rfl, by decide +kernel, rfl, by decide +kernel, by decide +kernel⟩
  refine fn_ok F S T.g_best_way (F.bindsN fun _ _ _ _ _ _ us hl => match us, hl with | [_, _, _, _, _], _ => rfl) rfl (fun cdv Ar ou st0 Hh Ee hr bb De xx hpre hret hnon => ?_)
  obtain ⟨links, prices, places, x, y⟩ := xx
  refine ⟨_, (.cons (.cons (.cons (.cons .one)))), ?_⟩
  have hpre : ∀ w ∈ places, Has prices x w ∧ Has prices w y := hpre
  refine run_asg (r := rOpt) (x := gp links x y) 5 S.nd (ev_getT (hu_of hr) (ev_pub 0) (ev_tup (ef_cons (ev_pub 3) (ef_one (ev_pub 4)))) (fun h I => ?_) (fun p h I v z => ?_)) ?_
  · show V.non = vO (gp links x y)
    unfold gp; rw [h]; rfl
  · rw [gp_of h]; exact z
  refine run_asg 6 S.nd ev_nonN ?_
  refine run_for rfl (ev_pub 2) (fun i => [.pub (rTab rOpt) links, .pub (rTab rOpt) prices, .pub (rLst rNat) places, .pub rNat x, .pub rNat y, .pub rOpt (bwAt links prices places x y i).1, .pub rOpN (bwAt links prices places x y i).2, .un, .un]) (Le.refl _) (fun b1 hb i w hw => ?_) ?_
  · have hk := hpre w (List.mem_of_getElem? hw)
    rw [bwAt_succ hw]
    generalize bwAt links prices places x y i = s
    obtain ⟨bs, m⟩ := s
    refine ⟨_, _, tg_name 7 S.nd, ?_⟩
    refine run_asg 8 S.nd (ev_callE h_total_fill (hr.mono (by decide)) (ef_cons (ev_pub 1) (ef_cons (ev_pub 3) (ef_cons (ev_pub 7) (ef_one (ev_pub 4))))) hk) ?_
    unfold bwStep
    show Run b1 _ _ _ [.pub (rTab rOpt) links, .pub (rTab rOpt) prices, .pub (rLst rNat) places, .pub rNat x, .pub rNat y, .pub rOpt bs, .pub rOpN m, .pub rNat w, .pub rOpt (osum (gp prices x w) (gp prices w y))]
    generalize osum (gp prices x w) (gp prices w y) = o
    cases o with
    | none =>
      refine run_no (EvW.t (ew_and (u := true) (et_notN vn_opt (ev_pub 8)) (by intro h; cases h))) rfl ?_
      exact run_last (To.le (.cons .same (.cons .same (.cons .same (.cons .same (.cons .same (.cons .same (.cons .same (.cons .un (.cons .un .nil))))))))) fun _ _ g => g)
    | some p =>
      cases bs with
      | none =>
        refine run_yes (EvW.t (ew_and (et_notN vn_opt (ev_pub 8)) fun _ => ew_and1 (EvW.t (ew_or (u := true) (et_isN vn_opt (ev_pub 5)) (by intro h; cases h))))) rfl ?_
        refine run_asg 5 S.nd (ev_pub 8) ?_
        refine run_asg 6 S.nd (Ev.opN (ev_pub 7)) ?_
        refine run_end ?_
        exact run_last (To.le (.cons .same (.cons .same (.cons .same (.cons .same (.cons .same (.cons .same (.cons .same (.cons .un (.cons .un .nil))))))))) fun _ _ g => g)
      | some q =>
        refine run_if (EvW.t (ew_and (et_notN vn_opt (ev_pub 8)) fun _ => ew_and1 (EvW.t (ew_or (et_isN vn_opt (ev_pub 5)) fun _ => ew_or1 (et_lt (Ev.unopt (ev_pub 8)) (Ev.unopt (ev_pub 5))))))) (fun h => ?_) (fun h => run_end ?_)
        · have h : olt p (some q) = true := h
          simp only [h, if_true]
          refine run_asg 5 S.nd (ev_pub 8) ?_
          refine run_asg 6 S.nd (Ev.opN (ev_pub 7)) ?_
          refine run_end ?_
          exact run_last (To.le (.cons .same (.cons .same (.cons .same (.cons .same (.cons .same (.cons .same (.cons .same (.cons .un (.cons .un .nil))))))))) fun _ _ g => g)
        · have h : olt p (some q) = false := h
          simp only [h]
          exact run_last (To.le (.cons .same (.cons .same (.cons .same (.cons .same (.cons .same (.cons .same (.cons .same (.cons .un (.cons .un .nil))))))))) fun _ _ g => g)
  · rw [bwAt_end]
    exact run_ret (ev_tup (ef_cons (ev_pub 5) (ef_one (ev_pub 6)))) (hret _ _ rfl)
abbrev C_row_of (Pg : Program) (Wd : World) (K : PySem.W.Frag) (mg : Str → Option Value) (Bh : Heap) : Prop := Cal Pg Wd K mg Bh "row_of" 1 ["pair", "prices", "middles"] (spF (fCons rPP (fCons (rTab rOpt) (fOne (rTab rOpN)))) rRow (fun a => Has a.2.1 a.1.1 a.1.2 ∧ Has a.2.1 a.1.2 a.1.1 ∧ Has a.2.2 a.1.1 a.1.2 ∧ Has a.2.2 a.1.2 a.1.1) (fun a y => y = rowOf a.2.1 a.2.2 a.1))
set_option maxHeartbeats 2000000 in
theorem c_row_of {Pg : Program} {Wd : World} {K : PySem.W.Frag} {mg : Str → Option Value} {Bh : Heap} (T : Hd K mg)  : C_row_of Pg Wd K mg Bh := by
  obtain ⟨fd, F⟩ := T.f_row_of
  have S : FnScope ["pair", "prices", "middles", "low", "high", "up", "down"] ["pair", "prices", "middles"] (defScope s_row_of) := ⟨rfl, rfl, rfl, by decide +kernel, rfl, by decide +kernel, by decide +kernel⟩
  refine fn_ok F S T.g_row_of (F.bindsN fun _ _ _ _ _ _ us hl => match us, hl with | [_, _, _], _ => rfl) rfl (fun cdv Ar ou st0 Hh Ee hr bb De xx hpre hret hnon => ?_)
  obtain ⟨⟨lo, hi⟩, prices, middles⟩ := xx
  refine ⟨_, (.cons (.cons .one)), ?_⟩
  obtain ⟨h1, h2, h3, h4⟩ := hpre
  obtain ⟨p1, e1⟩ := some_of h1
  obtain ⟨p2, e2⟩ := some_of h2
  obtain ⟨p3, e3⟩ := some_of h3
  obtain ⟨p4, e4⟩ := some_of h4
  refine run_unp (ev_pub 0) (tg_tup rfl (tgs_cons (tg_name 3 S.nd) (tgs_one (tg_name 4 S.nd)))) ?_
  refine run_asg 5 S.nd (ev_tup (ef_cons (ev_pub 3) (ef_one (ev_pub 4)))) ?_
  refine run_asg 6 S.nd (ev_tup (ef_cons (ev_pub 4) (ef_one (ev_pub 3)))) ?_
  refine run_ret (ev_tup (ef_cons (ev_pub 3) (ef_cons (ev_pub 4) (ef_cons (ev_dT (hu_of hr) (ev_pub 1) (ev_pub 5) e1) (ef_cons (ev_dT (hu_of hr) (ev_pub 1) (ev_pub 6) e2) (ef_cons (ev_dT (hu_of hr) (ev_pub 2) (ev_pub 5) e3) (ef_one (ev_dT (hu_of hr) (ev_pub 2) (ev_pub 6) e4)))))))) (hret _ _ ?_)
  show (lo, hi, p1, p2, p3, p4) = rowOf prices middles (lo, hi)
  unfold rowOf
  rw [gp_of e1, gp_of e2, gm_of e3, gm_of e4]
abbrev C_link_index (Pg : Program) (Wd : World) (K : PySem.W.Frag) (mg : Str → Option Value) (Bh : Heap) : Prop := Cal Pg Wd K mg Bh "link_index" 1 ["net", "a", "b"] (spF (fCons rNet (fCons rNat (fOne rNat))) rNat (fun x => x.1.2.length ≤ 1000 ∧ (linkAt x.1.2 x.2.1 x.2.2).isSome = true) (fun x y => ∃ l, x.1.2[y]? = some l ∧ linkAt x.1.2 x.2.1 x.2.2 = some l))
set_option maxHeartbeats 2000000 in
theorem c_link_index {Pg : Program} {Wd : World} {K : PySem.W.Frag} {mg : Str → Option Value} {Bh : Heap} (T : Hd K mg)  : C_link_index Pg Wd K mg Bh := by
  obtain ⟨fd, F⟩ := T.f_link_index
  have S : FnScope ["net", "a", "b", "low", "high", "k", "#"] ["net", "a", "b"] (defScope s_link_index) := ⟨rfl, rfl, rfl, by decide +kernel, rfl, by decide +kernel, by decide +kernel⟩
  refine fn_ok F S T.g_link_index (F.bindsN fun _ _ _ _ _ _ us hl => match us, hl with | [_, _, _], _ => rfl) rfl (fun cdv Ar ou st0 Hh Ee hr bb De xx hpre hret hnon => ?_)
  obtain ⟨⟨n, ls⟩, a, b⟩ := xx
  refine ⟨_, (.cons (.cons .one)), ?_⟩
  obtain ⟨hl, hk⟩ := hpre
  have hl : ls.length ≤ 1000 := hl
  have hk : (linkAt ls a b).isSome = true := hk
  refine run_asg 3 S.nd (Ev.nat (n := if b < a then b else a) (Ev.is (ev_min2 rfl T.b_min (Ev.int (ev_pub 1)) (Ev.int (ev_pub 2))) (by split <;> split <;> omega))) ?_
  refine run_asg 4 S.nd (Ev.nat (n := if b > a then b else a) (Ev.is (ev_max2 rfl T.b_max (Ev.int (ev_pub 1)) (Ev.int (ev_pub 2))) (by split <;> split <;> omega))) ?_
  refine run_forR rfl T.b_range (ev_len T.b_len (ev_ixT (ev_pub 0) (ev_nat (i := 1)) (.tl .one))) (by omega) (fun i => [.pub rNet (n, ls), .pub rNat a, .pub rNat b, .pub rNat (if b < a then b else a), .pub rNat (if b > a then b else a), .un, .fact (∀ j l, j < i → ls[j]? = some l → ¬ (l.1, l.2.1) = keyAt a b)]) (.cons .same (.cons .same (.cons .same (.cons .same (.cons .same (.cons .un (.cons (.fact (fun j l h => absurd h (Nat.not_lt_zero _))) .nil))))))) (fun b1 hb i hi => ?_) ?_
  · obtain ⟨⟨l1, l2, l3⟩, hx⟩ : ∃ l, ls[i]? = some l := ⟨_, List.getElem?_eq_getElem hi⟩
    refine ⟨_, _, tg_name 5 S.nd, ?_⟩
    refine run_fact 6 rfl fun hno => ?_
    refine run_if (et_eqD (dTup (dCons dNat (dOne dNat))) hr.units (ev_two2 (ev_ix (ev_ixT (ev_pub 0) (ev_nat (i := 1)) (.tl .one)) (ev_pub 5) hx)) (ev_tup (ef_cons (ev_pub 3) (ef_one (ev_pub 4))))) (fun h => ?_) (fun h => run_end ?_)
    · have h := of_decide_eq_true h
      refine run_ret (ev_pub 5) ((hret _ _ ⟨(l1, l2, l3), hx, ?_⟩).base hb)
      unfold linkAt
      refine List.find?_eq_some_iff_getElem.mpr ⟨decide_eq_true h, i, hi, ?_, fun j hj => ?_⟩
      · exact (List.getElem?_eq_some_iff.mp hx).2
      · have hjl : j < ls.length := by omega
        simpa using hno j ls[j] hj (List.getElem?_eq_getElem hjl)
    · have h := of_decide_eq_false h
      refine run_last (To.le (.cons .same (.cons .same (.cons .same (.cons .same (.cons .same (.cons .un (.cons (.fact ?_) .nil))))))) fun _ _ g => g)
      intro j l hj e
      rcases Nat.lt_succ_iff_lt_or_eq.mp hj with q | q
      · exact hno j l q e
      · subst q
        rw [hx] at e
        cases e
        exact h
  · refine run_fact 6 rfl fun hno => ?_
    exfalso
    obtain ⟨l, hl2⟩ := some_of hk
    have hm := List.mem_of_find?_eq_some hl2
    have hp := List.find?_some hl2
    obtain ⟨j, hj⟩ := List.getElem?_of_mem hm
    exact hno j l (List.getElem?_eq_some_iff.mp hj).1 hj (of_decide_eq_true hp)
abbrev C_link_price (Pg : Program) (Wd : World) (K : PySem.W.Frag) (mg : Str → Option Value) (Bh : Heap) : Prop := Cal Pg Wd K mg Bh "link_price" 2 ["net", "a", "b"] (spF (fCons rNet (fCons rNat (fOne rNat))) (rTup (fCons rBl (fOne rOpt))) (fun x => x.1.2.length ≤ 1000 ∧ (linkAt x.1.2 x.2.1 x.2.2).isSome = true) (fun x y => y = (true, priceOf x.1.2 x.2.1 x.2.2)))
set_option maxHeartbeats 2000000 in
theorem c_link_price {Pg : Program} {Wd : World} {K : PySem.W.Frag} {mg : Str → Option Value} {Bh : Heap} (T : Hd K mg) (h_link_index : C_link_index Pg Wd K mg Bh) : C_link_price Pg Wd K mg Bh := by
  obtain ⟨fd, F⟩ := T.f_link_price
  have S : FnScope ["net", "a", "b", "index"] ["net", "a", "b"] (defScope s_link_price) := ⟨rfl, rfl, rfl, by decide +kernel, rfl, by decide +kernel, by decide +kernel⟩
  refine fn_ok F S T.g_link_price (F.bindsN fun _ _ _ _ _ _ us hl => match us, hl with | [_, _, _], _ => rfl) rfl (fun cdv Ar ou st0 Hh Ee hr bb De xx hpre hret hnon => ?_)
  obtain ⟨⟨n, ls⟩, a, b⟩ := xx
  refine ⟨_, (.cons (.cons .one)), ?_⟩
  refine run_asgP 3 S.nd (ev_call h_link_index (hr.mono (by decide)) (ef_cons (ev_pub 0) (ef_cons (ev_pub 1) (ef_one (ev_pub 2)))) hpre) (fun k hk => ?_)
  obtain ⟨⟨l1, l2, l3, l4⟩, h1, h2⟩ := hk
  have h1 : ls[k]? = some (l1, l2, l3, l4) := h1
  have h2 : linkAt ls a b = some (l1, l2, l3, l4) := h2
  have h3 : priceOf ls a b = if a < b then l3 else l4 := by unfold priceOf; rw [h2]; rfl
  refine run_no (et_lt (Ev.int (ev_pub 3)) (ev_int (i := 0))) (decide_eq_false (by omega)) ?_
  refine run_if (et_ltN (ev_pub 1) (ev_pub 2)) (fun h => ?_) (fun h => run_end ?_)
  · refine run_ret (ev_tup (ef_cons (ev_bl (i := true)) (ef_one (ev_ixT (ev_ix (ev_ixT (ev_pub 0) (ev_nat (i := 1)) (.tl .one)) (ev_pub 3) h1) (ev_nat (i := 2)) (.tl (.tl .hd)))))) (hret _ _ ?_)
    show (true, l3) = (true, priceOf ls a b)
    rw [h3, if_pos (of_decide_eq_true h)]
  · refine run_ret (ev_tup (ef_cons (ev_bl (i := true)) (ef_one (ev_ixT (ev_ix (ev_ixT (ev_pub 0) (ev_nat (i := 1)) (.tl .one)) (ev_pub 3) h1) (ev_nat (i := 3)) (.tl (.tl (.tl .one))))))) (hret _ _ ?_)
    show (true, l4) = (true, priceOf ls a b)
    rw [h3, if_neg (of_decide_eq_false h)]

theorem roadSum_has {ls : List Link} : ∀ {road : List Nat} {k : Nat}, (roadSumL ls road).isSome = true → k + 1 < road.length → ∃ p, priceOf ls (road.getD k 0) (road.getD (k + 1) 0) = some p
  | [], _, _, h => by simp at h
  | [_], _, _, h => by simp at h
  | x :: y :: r, k, hs, h => by
    unfold roadSumL at hs
    cases hp : priceOf ls x y with
    | none => rw [hp] at hs; cases hs
    | some p =>
      cases hq : roadSumL ls (y :: r) with
      | none => rw [hp, hq] at hs; cases hs
      | some q =>
        cases k with
        | zero => exact ⟨p, hp⟩
        | succ k =>
          have := roadSum_has (ls := ls) (road := y :: r) (k := k) (by rw [hq]; rfl) (by simpa using h)
          simpa using this
theorem priceOf_link {ls : List Link} {a b : Nat} {p : Int} (h : priceOf ls a b = some p) : (linkAt ls a b).isSome = true := by
  unfold priceOf at h
  cases e : linkAt ls a b with
  | none => rw [e] at h; cases h
  | some l => rfl
theorem preSum_succ (ls : List Link) (road : List Nat) (k : Nat) : preSum ls road (k + 1) = preSum ls road k + (priceOf ls (road.getD k 0) (road.getD (k + 1) 0)).getD 0 := rfl
theorem preSum_cons (ls : List Link) (x y : Nat) (r : List Nat) : ∀ k, preSum ls (x :: y :: r) (k + 1) = (priceOf ls x y).getD 0 + preSum ls (y :: r) k
  | 0 => by simp [preSum]
  | k + 1 => by
    rw [preSum, preSum_cons ls x y r k]
    simp only [preSum, List.getD_cons_succ]
    omega
theorem roadSum_pre {ls : List Link} : ∀ {road : List Nat}, (roadSumL ls road).isSome = true → roadSumL ls road = some (preSum ls road (road.length - 1))
  | [], h => by cases h
  | [_], _ => rfl
  | x :: y :: r, hs => by
    unfold roadSumL at hs ⊢
    cases hp : priceOf ls x y with
    | none => rw [hp] at hs; cases hs
    | some p =>
      cases hq : roadSumL ls (y :: r) with
      | none => rw [hp, hq] at hs; cases hs
      | some q =>
        have ih := roadSum_pre (ls := ls) (road := y :: r) (by rw [hq]; rfl)
        have e : (x :: y :: r).length - 1 = ((y :: r).length - 1) + 1 := by simp
        rw [e, preSum_cons, hp]
        rw [hq] at ih
        have ih := Option.some.inj ih
        simp [osum, ih]
abbrev C_road_sum (Pg : Program) (Wd : World) (K : PySem.W.Frag) (mg : Str → Option Value) (Bh : Heap) : Prop := Cal Pg Wd K mg Bh "road_sum" 3 ["net", "road"] (spF (fCons rNet (fOne (rLst rNat))) rOpt (fun x => x.1.2.length ≤ 1000 ∧ x.2.length ≤ 1000 ∧ (∀ p ∈ x.2, p < x.1.1) ∧ (roadSumL x.1.2 x.2).isSome = true) (fun x y => y = roadSumL x.1.2 x.2))
set_option maxHeartbeats 2000000 in
theorem c_road_sum {Pg : Program} {Wd : World} {K : PySem.W.Frag} {mg : Str → Option Value} {Bh : Heap} (T : Hd K mg) (h_link_price : C_link_price Pg Wd K mg Bh) : C_road_sum Pg Wd K mg Bh := by
  obtain ⟨fd, F⟩ := T.f_road_sum
  have S : FnScope ["net", "road", "place", "total", "k", "value"] ["net", "road"] (defScope s_road_sum) := ⟨rfl, rfl, rfl, by decide +kernel, rfl, by decide +kernel, by decide +kernel⟩
  refine fn_ok F S T.g_road_sum (F.bindsN fun _ _ _ _ _ _ us hl => match us, hl with | [_, _], _ => rfl) rfl (fun cdv Ar ou st0 Hh Ee hr bb De xx hpre hret hnon => ?_)
  obtain ⟨⟨n, ls⟩, road⟩ := xx
  refine ⟨_, (.cons .one), ?_⟩
  obtain ⟨hl, hrl, hp, hs⟩ := hpre
  have hl : ls.length ≤ 1000 := hl
  have hrl : road.length ≤ 1000 := hrl
  have hp : ∀ p ∈ road, p < n := hp
  have hs : (roadSumL ls road).isSome = true := hs
  have hne : 0 < road.length := by
    cases road with
    | nil => cases hs
    | cons x r => simp
  refine run_no (et_eq sc_int (Ev.int (ev_len T.b_len (ev_pub 1))) (ev_int (i := 0))) (decide_eq_false (by omega)) ?_
  refine run_for rfl (ev_pub 1) (fun i => [.pub rNet (n, ls), .pub (rLst rNat) road, .un, .un, .un, .un]) (Le.refl _) (fun b1 hb i x hx => ?_) ?_
  · have hxn : x < n := hp x (List.mem_of_getElem? hx)
    refine ⟨_, _, tg_name 2 S.nd, ?_⟩
    refine run_no (et_not (et_chain (ev_int (i := 0)) (Ev.int (ev_pub 2)) (Ev.int (ev_ixT (ev_pub 0) (ev_nat (i := 0)) .hd)))) (by simp [hxn]) ?_
    exact run_last (To.le (.cons .same (.cons .same (.cons .un (.cons .un (.cons .un (.cons .un .nil)))))) fun _ _ g => g)
  · refine run_asg 3 S.nd (ev_int (i := 0)) ?_
    refine run_forR (n := road.length - 1) rfl T.b_range (Ev.nat (Ev.is (ev_sub (Ev.int (ev_len T.b_len (ev_pub 1))) (ev_int (i := 1))) (by omega))) (by omega) (fun i => [.pub rNet (n, ls), .pub (rLst rNat) road, .un, .pub rInt (preSum ls road i), .un, .un]) (Le.refl _) (fun b1 hb i hi => ?_) ?_
    · obtain ⟨p, hpp⟩ := roadSum_has hs (k := i) (by omega)
      have g1 : road[i]? = some (road.getD i 0) := by rw [List.getD_eq_getElem?_getD, List.getElem?_eq_getElem (by omega)]; rfl
      have g2 : road[i + 1]? = some (road.getD (i + 1) 0) := by rw [List.getD_eq_getElem?_getD, List.getElem?_eq_getElem (by omega)]; rfl
      refine ⟨_, _, tg_name 4 S.nd, ?_⟩
      refine run_asg 5 S.nd (ev_ixT (ev_callE h_link_price (hr.mono (by decide)) (ef_cons (ev_pub 0) (ef_cons (ev_ix (ev_pub 1) (ev_pub 4) g1) (ef_one (ev_ix (ev_pub 1) (ev_addN (ev_pub 4) (ev_nat (i := 1))) g2)))) ⟨hl, priceOf_link hpp⟩) (ev_nat (i := 1)) (.tl .one)) ?_
      show Run b1 _ _ _ [.pub rNet (n, ls), .pub (rLst rNat) road, .un, .pub rInt (preSum ls road i), .pub rNat i, .pub rOpt (priceOf ls (road.getD i 0) (road.getD (i + 1) 0))]
      rw [hpp]
      refine run_no (et_isN vn_opt (ev_pub 5)) rfl ?_
      refine run_augI 3 S.nd rfl (Ev.unopt (ev_pub 5)) ?_
      refine run_last (To.le (.cons .same (.cons .same (.cons .un (.cons ?_ (.cons .un (.cons .un .nil)))))) fun _ _ g => g)
      show LeB _ (B.pub rInt (preSum ls road (i + 1)))
      rw [show preSum ls road (i + 1) = preSum ls road i + p by rw [preSum_succ, hpp]; rfl]
      exact .same
    · refine run_ret (Ev.opt (ev_pub 3)) (hret _ _ ?_)
      exact (roadSum_pre hs).symm

theorem openWays_len (ls : List Link) (i : Nat) : (openWays (ls.take i)).length ≤ 2 * i := by
  have : ∀ (l : List Link) (t : List (Nat × Nat × Int)), (l.foldl openStep t).length ≤ t.length + 2 * l.length := by
    intro l
    induction l with
    | nil => intro t; simp
    | cons a l ih =>
      intro t
      rw [List.foldl_cons, List.length_cons]
      refine Nat.le_trans (ih _) ?_
      have : (openStep t a).length ≤ t.length + 2 := by
        unfold openStep
        cases a.2.2.1 <;> cases a.2.2.2 <;> simp
      omega
  have h := this (ls.take i) []
  rw [List.length_take] at h
  simp at h
  unfold openWays
  omega
abbrev C_open_ways (Pg : Program) (Wd : World) (K : PySem.W.Frag) (mg : Str → Option Value) (Bh : Heap) : Prop := Cal Pg Wd K mg Bh "open_ways" 1 ["net"] (spF (fOne rNet) (rLst rWay3) (fun x => x.2.length ≤ 1000) (fun x y => y = openWays x.2))
set_option maxHeartbeats 2000000 in
theorem c_open_ways {Pg : Program} {Wd : World} {K : PySem.W.Frag} {mg : Str → Option Value} {Bh : Heap} (T : Hd K mg)  : C_open_ways Pg Wd K mg Bh := by
  obtain ⟨fd, F⟩ := T.f_open_ways
  have S : FnScope ["net", "ways", "a", "b", "there", "back"] ["net"] (defScope s_open_ways) := ⟨rfl, rfl, rfl, by decide +kernel, rfl, by decide +kernel, by decide +kernel⟩
  refine fn_ok F S T.g_open_ways (F.bindsN fun _ _ _ _ _ _ us hl => match us, hl with | [_], _ => rfl) rfl (fun cdv Ar ou st0 Hh Ee hr bb De xx hpre hret hnon => ?_)
  obtain ⟨n, ls⟩ := xx
  refine ⟨_, .one, ?_⟩
  have hl : ls.length ≤ 1000 := hpre
  refine run_asgN 1 S.nd (ev_nilL (r := rWay3)) ?_
  refine run_for rfl (ev_ixT (ev_pub 0) (ev_nat (i := 1)) (.tl .one)) (fun i => [.pub rNet (n, ls), .own (oLst rWay3) (openWays (ls.take i)), .un, .un, .un, .un]) (Le.refl _) (fun b1 hb i x hx => ?_) ?_
  · have hi := (List.getElem?_eq_some_iff.mp hx).1
    have h2 := openWays_len ls i
    have e : openWays (ls.take (i + 1)) = openStep (openWays (ls.take i)) x := by unfold openWays; rw [take_foldl hx]
    obtain ⟨a, b, th, bk⟩ := x
    rw [e]
    generalize openWays (ls.take i) = ws at h2 e
    refine ⟨_, _, tg_tup rfl (tgs_cons (tg_name 2 S.nd) (tgs_cons (tg_name 3 S.nd) (tgs_cons (tg_name 4 S.nd) (tgs_one (tg_name 5 S.nd))))), ?_⟩
    have z1 : ws.length < sizeLine := sz_le (by omega)
    have z2 : ∀ u, (ws ++ [u]).length < sizeLine := fun u => sz_le (by simp; omega)
    cases th with
    | none =>
      refine run_no (et_notN vn_opt (ev_pub 4)) rfl ?_
      cases bk with
      | none =>
        refine run_no (et_notN vn_opt (ev_pub 5)) rfl ?_
        exact run_last (To.le (.cons .same (.cons .same (.cons .un (.cons .un (.cons .un (.cons .un .nil)))))) fun _ _ g => g)
      | some q =>
        refine run_yes (et_notN vn_opt (ev_pub 5)) rfl ?_
        refine run_app 1 rfl (ev_tup (ef_cons (ev_pub 3) (ef_cons (ev_pub 2) (ef_one (Ev.unopt (ev_pub 5)))))) z1 ?_
        exact run_end (run_last (To.le (.cons .same (.cons .same (.cons .un (.cons .un (.cons .un (.cons .un .nil)))))) fun _ _ g => g))
    | some p =>
      refine run_yes (et_notN vn_opt (ev_pub 4)) rfl ?_
      refine run_app 1 rfl (ev_tup (ef_cons (ev_pub 2) (ef_cons (ev_pub 3) (ef_one (Ev.unopt (ev_pub 4)))))) z1 ?_
      refine run_end ?_
      cases bk with
      | none =>
        refine run_no (et_notN vn_opt (ev_pub 5)) rfl ?_
        exact run_last (To.le (.cons .same (.cons .same (.cons .un (.cons .un (.cons .un (.cons .un .nil)))))) fun _ _ g => g)
      | some q =>
        refine run_yes (et_notN vn_opt (ev_pub 5)) rfl ?_
        refine run_app 1 rfl (ev_tup (ef_cons (ev_pub 3) (ef_cons (ev_pub 2) (ef_one (Ev.unopt (ev_pub 5)))))) (z2 _) ?_
        exact run_end (run_last (To.le (.cons .same (.cons .same (.cons .un (.cons .un (.cons .un (.cons .un .nil)))))) fun _ _ g => g))
  · rw [List.take_length]
    refine run_pub 1 rfl ?_
    exact run_ret (ev_pub 1) (hret _ _ rfl)

theorem openWays_lt {n : Nat} {ls : List Link} (h : ∀ l ∈ ls, l.1 < n ∧ l.2.1 < n) : ∀ w ∈ openWays ls, w.1 < n ∧ w.2.1 < n := by
  have : ∀ (l : List Link) (t : List (Nat × Nat × Int)), (∀ x ∈ l, x.1 < n ∧ x.2.1 < n) → (∀ w ∈ t, w.1 < n ∧ w.2.1 < n) → ∀ w ∈ l.foldl openStep t, w.1 < n ∧ w.2.1 < n := by
    intro l
    induction l with
    | nil => intro t _ h; exact h
    | cons a l ih =>
      intro t hl ht
      rw [List.foldl_cons]
      refine ih _ (fun x m => hl x (List.mem_cons_of_mem _ m)) ?_
      have ha := hl a (by simp)
      intro w hw
      unfold openStep at hw
      cases h1 : a.2.2.1 <;> cases h2 : a.2.2.2 <;> simp only [h1, h2, List.mem_append, List.mem_singleton] at hw
      · exact ht w hw
      · rcases hw with hw | rfl
        · exact ht w hw
        · exact ⟨ha.2, ha.1⟩
      · rcases hw with hw | rfl
        · exact ht w hw
        · exact ha
      · rcases hw with (hw | rfl) | rfl
        · exact ht w hw
        · exact ha
        · exact ⟨ha.2, ha.1⟩
  exact this ls [] h (by simp)
theorem relax_len (s : List (Option Int)) (w : Nat × Nat × Int) : (relax s w).length = s.length := by
  unfold relax
  split
  · split
    · rw [List.length_set]
    · rfl
  · rfl
theorem relaxes_len (ws : List (Nat × Nat × Int)) : ∀ s : List (Option Int), (ws.foldl relax s).length = s.length := by
  induction ws with
  | nil => intro s; rfl
  | cons w ws ih => intro s; rw [List.foldl_cons, ih, relax_len]
def paperAt (n : Nat) (ws : List (Nat × Nat × Int)) (p i : Nat) : List (Option Int) := (List.range i).foldl (fun s _ => ws.foldl relax s) ((List.replicate n none).set p (some 0))
theorem paperAt_succ (n : Nat) (ws : List (Nat × Nat × Int)) (p i : Nat) : paperAt n ws p (i + 1) = ws.foldl relax (paperAt n ws p i) := by
  unfold paperAt
  rw [List.range_succ, List.foldl_append]
  rfl
theorem paperAt_len (n : Nat) (ws : List (Nat × Nat × Int)) (p i : Nat) : (paperAt n ws p i).length = n := by
  induction i with
  | zero => unfold paperAt; simp
  | succ i ih => rw [paperAt_succ, relaxes_len, ih]
abbrev C_paper (Pg : Program) (Wd : World) (K : PySem.W.Frag) (mg : Str → Option Value) (Bh : Heap) : Prop := Cal Pg Wd K mg Bh "paper" 2 ["net", "place"] (spF (fCons rNet (fOne rNat)) (rLst rOpt) (fun x => x.1.2.length ≤ 1000 ∧ x.1.1 ≤ 1000 ∧ x.2 < x.1.1 ∧ ∀ l ∈ x.1.2, l.1 < x.1.1 ∧ l.2.1 < x.1.1) (fun x y => y = paperL x.1 x.2))
set_option maxHeartbeats 2000000 in
theorem c_paper {Pg : Program} {Wd : World} {K : PySem.W.Frag} {mg : Str → Option Value} {Bh : Heap} (T : Hd K mg) (h_open_ways : C_open_ways Pg Wd K mg Bh) : C_paper Pg Wd K mg Bh := by
  obtain ⟨fd, F⟩ := T.f_paper
  have S : FnScope ["net", "place", "ways", "sums", "_", "a", "b", "price"] ["net", "place"] (defScope s_paper) := ⟨rfl, rfl, rfl, by decide +kernel, rfl, by decide +kernel, by decide +kernel⟩
  refine fn_ok F S T.g_paper (F.bindsN fun _ _ _ _ _ _ us hl => match us, hl with | [_, _], _ => rfl) rfl (fun cdv Ar ou st0 Hh Ee hr bb De xx hpre hret hnon => ?_)
  obtain ⟨⟨n, ls⟩, place⟩ := xx
  refine ⟨_, (.cons .one), ?_⟩
  obtain ⟨hl, hn, hp, hb⟩ := hpre
  have hl : ls.length ≤ 1000 := hl
  have hn : n ≤ 1000 := hn
  have hp : place < n := hp
  have hw := openWays_lt hb
  refine run_no (et_not (et_chain (ev_int (i := 0)) (Ev.int (ev_pub 1)) (Ev.int (ev_ixT (ev_pub 0) (ev_nat (i := 0)) .hd)))) (by simp [hp]) ?_
  refine run_asg 2 S.nd (ev_callE h_open_ways (hr.mono (by decide)) (ef_one (ev_pub 0)) hl) ?_
  refine run_asgN 3 S.nd (ev_rep (EvN.pub (ev_lst (ei_cons ev_non ef_nil1) (by decide))) (ev_ixT (ev_pub 0) (ev_nat (i := 0)) .hd) (sz_le' (by omega))) ?_
  refine run_setL 3 rfl (Ev.opt (ev_int (i := 0))) (ev_pub 1) (by simp; exact hp) ?_
  refine run_forR rfl T.b_range (ev_ixT (ev_pub 0) (ev_nat (i := 0)) .hd) (by omega) (fun i => [.pub rNet (n, ls), .pub rNat place, .pub (rLst rWay3) (openWays ls), .own (oLst rOpt) (paperAt n (openWays ls) place i), .un, .un, .un, .un]) (Le.refl _) (fun b1 hb1 i hi => ?_) ?_
  · refine ⟨_, _, tg_name 4 S.nd, ?_⟩
    refine run_for rfl (ev_pub 2) (fun j => [.pub rNet (n, ls), .pub rNat place, .pub (rLst rWay3) (openWays ls), .own (oLst rOpt) (((openWays ls).take j).foldl relax (paperAt n (openWays ls) place i)), .un, .un, .un, .un]) (.cons .same (.cons .same (.cons .same (.cons .same (.cons .un (.cons .un (.cons .un (.cons .un .nil)))))))) (fun b2 hb2 j w hj => ?_) ?_
    · have hwl := hw w (List.mem_of_getElem? hj)
      have hlen : (((openWays ls).take j).foldl relax (paperAt n (openWays ls) place i)).length = n := by rw [relaxes_len, paperAt_len]
      rw [take_foldl hj]
      generalize ((openWays ls).take j).foldl relax (paperAt n (openWays ls) place i) = s at hlen
      obtain ⟨a, b, pr⟩ := w
      have ga : s[a]? = some (s.getD a none) := getD_get (by rw [hlen]; exact hwl.1)
      have gb : s[b]? = some (s.getD b none) := getD_get (by rw [hlen]; exact hwl.2)
      refine ⟨_, _, tg_tup rfl (tgs_cons (tg_name 5 S.nd) (tgs_cons (tg_name 6 S.nd) (tgs_one (tg_name 7 S.nd)))), ?_⟩
      unfold relax
      show Run b2 _ _ ⟨Sg b2 [.pub rNet (n, ls), .pub rNat place, .pub (rLst rWay3) (openWays ls), .own (oLst rOpt) (match s.getD a none with | some d => if olt (d + pr) (s.getD b none) then s.set b (some (d + pr)) else s | none => s), .un, .un, .un, .un], _, _, Sg b2 [.pub rNet (n, ls), .pub rNat place, .pub (rLst rWay3) (openWays ls), .own (oLst rOpt) (match s.getD a none with | some d => if olt (d + pr) (s.getD b none) then s.set b (some (d + pr)) else s | none => s), .un, .un, .un, .un]⟩ _
      generalize s.getD a none = sa at ga
      generalize s.getD b none = sb at gb
      cases sa with
      | none =>
        refine run_no (EvW.t (ew_and (u := true) (et_notN vn_opt (ev_ixO 3 rfl (ev_pub 5) ga)) (by intro h; cases h))) rfl ?_
        exact run_last (To.le (.cons .same (.cons .same (.cons .same (.cons .same (.cons .un (.cons .un (.cons .un (.cons .un .nil)))))))) fun _ _ g => g)
      | some d =>
        cases sb with
        | none =>
          refine run_yes (EvW.t (ew_and (et_notN vn_opt (ev_ixO 3 rfl (ev_pub 5) ga)) fun _ => ew_and1 (EvW.t (ew_or (u := true) (et_isN vn_opt (ev_ixO 3 rfl (ev_pub 6) gb)) (by intro h; cases h))))) rfl ?_
          refine run_setL 3 rfl (Ev.opt (ev_add (Ev.unopt (ev_ixO 3 rfl (ev_pub 5) ga)) (ev_pub 7))) (ev_pub 6) (by rw [hlen]; exact hwl.2) ?_
          exact run_end (run_last (To.le (.cons .same (.cons .same (.cons .same (.cons .same (.cons .un (.cons .un (.cons .un (.cons .un .nil)))))))) fun _ _ g => g))
        | some q =>
          refine run_if (EvW.t (ew_and (et_notN vn_opt (ev_ixO 3 rfl (ev_pub 5) ga)) fun _ => ew_and1 (EvW.t (ew_or (et_isN vn_opt (ev_ixO 3 rfl (ev_pub 6) gb)) fun _ => ew_or1 (et_lt (ev_add (Ev.unopt (ev_ixO 3 rfl (ev_pub 5) ga)) (ev_pub 7)) (Ev.unopt (ev_ixO 3 rfl (ev_pub 6) gb))))))) (fun h => ?_) (fun h => run_end ?_)
          · have h : olt (d + pr) (some q) = true := h
            simp only [h, if_true]
            refine run_setL 3 rfl (Ev.opt (ev_add (Ev.unopt (ev_ixO 3 rfl (ev_pub 5) ga)) (ev_pub 7))) (ev_pub 6) (by rw [hlen]; exact hwl.2) ?_
            exact run_end (run_last (To.le (.cons .same (.cons .same (.cons .same (.cons .same (.cons .un (.cons .un (.cons .un (.cons .un .nil)))))))) fun _ _ g => g))
          · have h : olt (d + pr) (some q) = false := h
            simp only [h]
            exact run_last (To.le (.cons .same (.cons .same (.cons .same (.cons .same (.cons .un (.cons .un (.cons .un (.cons .un .nil)))))))) fun _ _ g => g)
    · rw [List.take_length, ← paperAt_succ]
      exact run_last (To.le (.cons .same (.cons .same (.cons .same (.cons .same (.cons .un (.cons .un (.cons .un (.cons .un .nil)))))))) fun _ _ g => g)
  · refine run_pub 3 rfl ?_
    exact run_ret (ev_pub 3) (hret _ _ rfl)
end Ov

/-! ## F3 -/
namespace Ov
open PySem PySem.Spec PyProof.Rows L2 T
abbrev C_is_paper (Pg : Program) (Wd : World) (K : PySem.W.Frag) (mg : Str → Option Value) (Bh : Heap) : Prop := Cal Pg Wd K mg Bh "is_paper" 2 ["net", "start", "paper"] (spF (fCons rNet (fCons rNat (fOne (rLst rOpt)))) rBl (fun x => x.1.2.length ≤ 1000 ∧ (∀ l ∈ x.1.2, l.1 < x.1.1 ∧ l.2.1 < x.1.1) ∧ x.2.2.length = x.1.1 ∧ x.2.2[x.2.1]? = some (some 0) ∧ (∀ w ∈ openWays x.1.2, ∀ d, x.2.2.getD w.1 none = some d → ∃ q, x.2.2.getD w.2.1 none = some q ∧ q ≤ d + w.2.2)) (fun x y => y = true))
set_option maxHeartbeats 2000000 in
theorem c_is_paper {Pg : Program} {Wd : World} {K : PySem.W.Frag} {mg : Str → Option Value} {Bh : Heap} (T : Hd K mg) (h_open_ways : C_open_ways Pg Wd K mg Bh) : C_is_paper Pg Wd K mg Bh := by
  obtain ⟨fd, F⟩ := T.f_is_paper
  have S : FnScope ["net", "start", "paper", "a", "b", "price"] ["net", "start", "paper"] (defScope s_is_paper) := ⟨rfl, rfl, rfl, by decide +kernel, rfl, by decide +kernel, by decide +kernel⟩
  refine fn_ok F S T.g_is_paper (F.bindsN fun _ _ _ _ _ _ us hl => match us, hl with | [_, _, _], _ => rfl) rfl (fun cdv Ar ou st0 Hh Ee hr bb De xx hpre hret hnon => ?_)
  obtain ⟨⟨n, ls⟩, start, paper⟩ := xx
  refine ⟨_, (.cons (.cons .one)), ?_⟩
  obtain ⟨hl, hb, hpl, hp0, hok⟩ := hpre
  have hl : ls.length ≤ 1000 := hl
  have hpl : paper.length = n := hpl
  have hp0 : paper[start]? = some (some 0) := hp0
  have hok : ∀ w ∈ openWays ls, ∀ d, paper.getD w.1 none = some d → ∃ q, paper.getD w.2.1 none = some q ∧ q ≤ d + w.2.2 := hok
  have hw := openWays_lt hb
  refine run_no (EvW.t (ew_or (et_ne sc_nat (ev_len T.b_len (ev_pub 2)) (ev_ixT (ev_pub 0) (ev_nat (i := 0)) .hd)) fun _ => ew_or1 (et_ne sc_opt (ev_ix (ev_pub 2) (ev_pub 1) hp0) (Ev.opt (ev_int (i := 0)))))) (by simp [hpl]) ?_
  refine run_for rfl (ev_callE h_open_ways (hr.mono (by decide)) (ef_one (ev_pub 0)) hl) (fun i => [.pub rNet (n, ls), .pub rNat start, .pub (rLst rOpt) paper, .un, .un, .un]) (Le.refl _) (fun b1 hb1 i w hi => ?_) ?_
  · have hm := List.mem_of_getElem? hi
    have hwl := hw w hm
    have hk := hok w hm
    obtain ⟨a, b, pr⟩ := w
    have hwl : a < n ∧ b < n := hwl
    have hk : ∀ d, paper.getD a none = some d → ∃ q, paper.getD b none = some q ∧ q ≤ d + pr := hk
    have ga : paper[a]? = some (paper.getD a none) := getD_get (by rw [hpl]; exact hwl.1)
    have gb : paper[b]? = some (paper.getD b none) := getD_get (by rw [hpl]; exact hwl.2)
    generalize paper.getD a none = sa at ga hk
    generalize paper.getD b none = sb at gb hk
    refine ⟨_, _, tg_tup rfl (tgs_cons (tg_name 3 S.nd) (tgs_cons (tg_name 4 S.nd) (tgs_one (tg_name 5 S.nd)))), ?_⟩
    cases sa with
    | none =>
      refine run_no (EvW.t (ew_and (u := true) (et_notN vn_opt (ev_ix (ev_pub 2) (ev_pub 3) ga)) (by intro h; cases h))) rfl ?_
      exact run_last (To.le (.cons .same (.cons .same (.cons .same (.cons .un (.cons .un (.cons .un .nil)))))) fun _ _ g => g)
    | some d =>
      obtain ⟨q, rfl, hq⟩ := hk d rfl
      refine run_no (EvW.t (ew_and (et_notN vn_opt (ev_ix (ev_pub 2) (ev_pub 3) ga)) fun _ => ew_and1 (EvW.t (ew_or (et_isN vn_opt (ev_ix (ev_pub 2) (ev_pub 4) gb)) fun _ => ew_or1 (et_gt (Ev.unopt (ev_ix (ev_pub 2) (ev_pub 4) gb)) (ev_add (Ev.unopt (ev_ix (ev_pub 2) (ev_pub 3) ga)) (ev_pub 5))))))) ?_ ?_
      · show decide (d + pr < q) = false
        exact decide_eq_false (by omega)
      · exact run_last (To.le (.cons .same (.cons .same (.cons .same (.cons .un (.cons .un (.cons .un .nil)))))) fun _ _ g => g)
  · exact run_ret ev_bl (hret _ _ rfl)

/-- what check_answer is asked with: a right paper, and the road of this sum if there is a number -/
structure AskOk (N : Net) (start stop : Nat) (number : Option Int) (road : Option (List Nat)) (paper : List (Option Int)) : Prop where
  l : N.2.length ≤ 1000
  lt : ∀ l ∈ N.2, l.1 < N.1 ∧ l.2.1 < N.1
  s : start < N.1
  t : stop < N.1
  pl : paper.length = N.1
  p0 : paper[start]? = some (some 0)
  ok : ∀ w ∈ openWays N.2, ∀ d, paper.getD w.1 none = some d → ∃ q, paper.getD w.2.1 none = some q ∧ q ≤ d + w.2.2
  pt : paper[stop]? = some number
  no : number = none → road = none
  yes : ∀ c, number = some c → ∃ ro, road = some ro ∧ ro.length ≤ 1000 ∧ ro[0]? = some start ∧ ro.getLast? = some stop ∧ (∀ p ∈ ro, p < N.1) ∧ roadSumL N.2 ro = some c
theorem atI_last' {α : Type} {xs : List α} {v : α} (h : xs.getLast? = some v) : atI xs (-1) = some v := by
  obtain ⟨ys, rfl⟩ := List.getLast?_eq_some_iff.mp h
  exact atI_last ys v
abbrev C_check_answer (Pg : Program) (Wd : World) (K : PySem.W.Frag) (mg : Str → Option Value) (Bh : Heap) : Prop := Cal Pg Wd K mg Bh "check_answer" 4 ["net", "start", "stop", "number", "road", "paper"] (spF (fCons rNet (fCons rNat (fCons rNat (fCons rOpt (fCons (rMay (rLst rNat)) (fOne (rLst rOpt))))))) rBl (fun x => AskOk x.1 x.2.1 x.2.2.1 x.2.2.2.1 x.2.2.2.2.1 x.2.2.2.2.2) (fun x y => y = true))
set_option maxHeartbeats 2000000 in
theorem c_check_answer {Pg : Program} {Wd : World} {K : PySem.W.Frag} {mg : Str → Option Value} {Bh : Heap} (T : Hd K mg) (h_is_paper : C_is_paper Pg Wd K mg Bh) (h_road_sum : C_road_sum Pg Wd K mg Bh) : C_check_answer Pg Wd K mg Bh := by
  obtain ⟨fd, F⟩ := T.f_check_answer
  have S : FnScope ["net", "start", "stop", "number", "road", "paper", "place"] ["net", "start", "stop", "number", "road", "paper"] (defScope s_check_answer) := ⟨rfl, rfl, rfl, by decide +kernel, rfl, by decide +kernel, by decide +kernel⟩
  refine fn_ok F S T.g_check_answer (F.bindsN fun _ _ _ _ _ _ us hl => match us, hl with | [_, _, _, _, _, _], _ => rfl) rfl (fun cdv Ar ou st0 Hh Ee hr bb De xx hpre hret hnon => ?_)
  obtain ⟨⟨n, ls⟩, start, stop, number, road, paper⟩ := xx
  refine ⟨_, (.cons (.cons (.cons (.cons (.cons .one))))), ?_⟩
  have a : AskOk (n, ls) start stop number road paper := hpre
  refine run_forT rfl (ev_tupL (ei_cons (ev_pub 1) (ei_cons (ev_pub 2) ef_nil1))) (fun i => [.pub rNet (n, ls), .pub rNat start, .pub rNat stop, .pub rOpt number, .pub (rMay (rLst rNat)) road, .pub (rLst rOpt) paper, .un]) (Le.refl _) (fun b1 hb1 i p hi => ?_) ?_
  · have hm := List.mem_of_getElem? hi
    have hpn : p < n := by
      have z1 : start < n := a.s
      have z2 : stop < n := a.t
      simp only [List.mem_cons, List.not_mem_nil, or_false] at hm
      rcases hm with rfl | rfl
      · exact z1
      · exact z2
    refine ⟨_, _, tg_name 6 S.nd, ?_⟩
    refine run_no (et_not (et_chain (ev_int (i := 0)) (Ev.int (ev_pub 6)) (Ev.int (ev_ixT (ev_pub 0) (ev_nat (i := 0)) .hd)))) (by simp [hpn]) ?_
    exact run_last (To.le (.cons .same (.cons .same (.cons .same (.cons .same (.cons .same (.cons .same (.cons .un .nil))))))) fun _ _ g => g)
  · refine run_no (EvW.t (ew_or (et_not (et_val (ev_callE (g := fun _ => true) h_is_paper (hr.mono (by decide)) (ef_cons (ev_pub 0) (ef_cons (ev_pub 1) (ef_one (ev_pub 5)))) ⟨a.l, a.lt, a.pl, a.p0, a.ok⟩))) fun _ => ew_or1 (et_ne sc_opt (ev_ix (ev_pub 5) (ev_pub 2) a.pt) (ev_pub 3)))) (by simp) ?_
    cases number with
    | none =>
      obtain rfl := a.no rfl
      refine run_yes (EvW.t (ew_or (u := true) (et_isN vn_opt (ev_pub 3)) (by intro h; cases h))) rfl ?_
      exact run_ret (ev_and (ev_isN vn_opt (ev_pub 3)) (fun _ => ev_one (ev_isN vn_may (ev_pub 4))) rfl) (hret _ _ rfl)
    | some c =>
      obtain ⟨ro, rfl, h3, h1, h2, h4, h5⟩ := a.yes c rfl
      refine run_no (EvW.t (ew_or (et_isN vn_opt (ev_pub 3)) fun _ => ew_or1 (et_isN vn_may (ev_pub 4)))) rfl ?_
      have h6 : 0 < ro.length := by
        cases ro with
        | nil => cases h1
        | cons y r => simp
      refine run_ret (ev_and (ev_gtN (ev_len T.b_len (Ev.unmay (ev_pub 4))) (ev_nat (i := 0))) (fun _ => ev_and (ev_eq sc_nat (ev_ix (Ev.unmay (ev_pub 4)) (ev_nat (i := 0)) h1) (ev_pub 1)) (fun _ => ev_and (ev_eq sc_nat (ev_ixI (Ev.unmay (ev_pub 4)) ev_minus (atI_last' h2)) (ev_pub 2)) (fun _ => ev_one (ev_eq sc_opt (ev_callE h_road_sum (hr.mono (by decide)) (ef_cons (ev_pub 0) (ef_one (Ev.unmay (ev_pub 4)))) ⟨a.l, h3, h4, by rw [show roadSumL ((n, ls), ro).1.2 ((n, ls), ro).2 = some c from h5]; rfl⟩) (ev_pub 3))) rfl) rfl) rfl) (hret _ _ ?_)
      have h5' : roadSumL ls ro = some c := h5
      simp [h6, h5']
abbrev C_check_places (Pg : Program) (Wd : World) (K : PySem.W.Frag) (mg : Str → Option Value) (Bh : Heap) : Prop := Cal Pg Wd K mg Bh "check_places" 1 ["order", "places"] (spF (fCons (rLst rNat) (fOne (rLst rNat))) rNon (fun x => ∀ p ∈ x.2, p < x.1.length) (fun x y => y = ()))
set_option maxHeartbeats 2000000 in
theorem c_check_places {Pg : Program} {Wd : World} {K : PySem.W.Frag} {mg : Str → Option Value} {Bh : Heap} (T : Hd K mg)  : C_check_places Pg Wd K mg Bh := by
  obtain ⟨fd, F⟩ := T.f_check_places
  have S : FnScope ["order", "places", "place"] ["order", "places"] (defScope s_check_places) := ⟨rfl, rfl, rfl, by decide +kernel, rfl, by decide +kernel, by decide +kernel⟩
  refine fn_ok F S T.g_check_places (F.bindsN fun _ _ _ _ _ _ us hl => match us, hl with | [_, _], _ => rfl) rfl (fun cdv Ar ou st0 Hh Ee hr bb De xx hpre hret hnon => ?_)
  obtain ⟨order, places⟩ := xx
  refine ⟨_, (.cons .one), ?_⟩
  have hp : ∀ p ∈ places, p < order.length := hpre
  refine run_for rfl (ev_pub 1) (fun i => [.pub (rLst rNat) order, .pub (rLst rNat) places, .un]) (Le.refl _) (fun b1 hb1 i p hi => ?_) ?_
  · have hpn := hp p (List.mem_of_getElem? hi)
    refine ⟨_, _, tg_name 2 S.nd, ?_⟩
    refine run_no (et_not (et_chain (ev_int (i := 0)) (Ev.int (ev_pub 2)) (Ev.int (ev_len T.b_len (ev_pub 0))))) (by simp [hpn]) ?_
    exact run_last (To.le (.cons .same (.cons .same (.cons .un .nil))) fun _ _ g => g)
  · exact run_nil (hnon _ () rfl fun _ => rfl)

theorem sumStep_len (up : Bool) (s : List Sum) (r : Row) : (sumStep up s r).length = s.length := by
  unfold sumStep
  split
  · split
    · rw [List.length_set]
    · rfl
  · rfl
theorem sums_len (up : Bool) (rows : List Row) : ∀ s : List Sum, (rows.foldl (sumStep up) s).length = s.length := by
  induction rows with
  | nil => intro s; rfl
  | cons r rows ih => intro s; rw [List.foldl_cons, ih, sumStep_len]
theorem sumsOver_len (n : Nat) (rows : List Row) (p : Nat) (up : Bool) : (sumsOver n rows p up).length = n := by
  unfold sumsOver; rw [sums_len]; simp
theorem col_at {up : Bool} {r : Row} : AtF fRow (if up then 2 else 3) r rOpt (colOf up r) := by
  obtain ⟨a, b, c, d, e, f⟩ := r
  cases up
  · exact .tl (.tl (.tl .hd))
  · exact .tl (.tl .hd)
abbrev RowsLt (n : Nat) (rows : List Row) : Prop := ∀ r ∈ rows, r.1 < n ∧ r.2.1 < n
abbrev C_sums_over (Pg : Program) (Wd : World) (K : PySem.W.Frag) (mg : Str → Option Value) (Bh : Heap) : Prop := Cal Pg Wd K mg Bh "sums_over" 2 ["order", "rows", "place", "column"] (spF (fCons (rLst rNat) (fCons (rLst rRow) (fCons rNat (fOne rNat)))) (rLst rSum) (fun x => x.1.length ≤ 1000 ∧ RowsLt x.1.length x.2.1 ∧ x.2.2.1 < x.1.length ∧ ∃ up : Bool, x.2.2.2 = (if up then 2 else 3)) (fun x y => ∀ up : Bool, x.2.2.2 = (if up then 2 else 3) → y = sumsOver x.1.length x.2.1 x.2.2.1 up))
set_option maxHeartbeats 2000000 in
theorem c_sums_over {Pg : Program} {Wd : World} {K : PySem.W.Frag} {mg : Str → Option Value} {Bh : Heap} (T : Hd K mg) (h_check_places : C_check_places Pg Wd K mg Bh) : C_sums_over Pg Wd K mg Bh := by
  obtain ⟨fd, F⟩ := T.f_sums_over
  have S : FnScope ["order", "rows", "place", "column", "sums", "row", "low", "high", "total"] ["order", "rows", "place", "column"] (defScope s_sums_over) := ⟨rfl, rfl, rfl, by decide +kernel, rfl, by decide +kernel, by decide +kernel⟩
  refine fn_ok F S T.g_sums_over (F.bindsN fun _ _ _ _ _ _ us hl => match us, hl with | [_, _, _, _], _ => rfl) rfl (fun cdv Ar ou st0 Hh Ee hr bb De xx hpre hret hnon => ?_)
  obtain ⟨order, rows, place, column⟩ := xx
  refine ⟨_, (.cons (.cons (.cons .one))), ?_⟩
  obtain ⟨hl, hrl, hp, up, hc⟩ := hpre
  have hl : order.length ≤ 1000 := hl
  have hrl : RowsLt order.length rows := hrl
  have hp : place < order.length := hp
  obtain rfl : column = (if up then 2 else 3) := hc
  refine run_drop (ev_call h_check_places (hr.mono (by decide)) (ef_cons (ev_pub 0) (ef_one (EvN.pub (ev_lst (ei_cons (ev_pub 2) ef_nil1) (by simp; exact sz_le' (by decide)))))) (by simp; exact hp)) ?_
  refine run_asgN 4 S.nd (ev_rep (EvN.pub (ev_lst (ei_cons (ev_tup (ef_cons ev_non (ef_one ev_nonN))) ef_nil1) (by simp; exact sz_le' (by decide)))) (ev_len T.b_len (ev_pub 0)) (sz_le' (by omega))) ?_
  refine run_setL 4 rfl (ev_tup (ef_cons (Ev.opt (ev_int (i := 0))) (ef_one ev_nonN))) (ev_pub 2) (by simp; exact hp) ?_
  refine run_for rfl (ev_pub 1) (fun i => [.pub (rLst rNat) order, .pub (rLst rRow) rows, .pub rNat place, .pub rNat (if up then 2 else 3), .own (oLst rSum) ((rows.take i).foldl (sumStep up) ((List.replicate order.length (none, none)).set place (some 0, none))), .un, .un, .un, .un]) (Le.refl _) (fun b1 hb1 i r hi => ?_) ?_
  · have hr2 := hrl r (List.mem_of_getElem? hi)
    have hlen : ((rows.take i).foldl (sumStep up) ((List.replicate order.length (none, none)).set place (some 0, none))).length = order.length := by rw [sums_len]; simp
    rw [take_foldl hi]
    generalize (rows.take i).foldl (sumStep up) ((List.replicate order.length (none, none)).set place (some 0, none)) = s at hlen
    have hca := col_at (up := up) (r := r)
    obtain ⟨lo, hi', c⟩ := r
    have hr2 : lo < order.length ∧ hi' < order.length := hr2
    have ga : s[lo]? = some (s.getD lo (none, none)) := getD_get (by rw [hlen]; exact hr2.1)
    have gb : s[hi']? = some (s.getD hi' (none, none)) := getD_get (by rw [hlen]; exact hr2.2)
    have hss : sumStep up s (lo, hi', c) = (match osum (s.getD lo (none, none)).1 (colOf up (lo, hi', c)) with
      | some t => if olt t (s.getD hi' (none, none)).1 then s.set hi' (some t, some lo) else s
      | none => s) := rfl
    rw [hss]
    generalize s.getD lo (none, none) = sa at ga
    generalize s.getD hi' (none, none) = sb at gb
    obtain ⟨a1, a2⟩ := sa
    obtain ⟨q1, q2⟩ := sb
    generalize colOf up (lo, hi', c) = cv at hca
    refine ⟨_, _, tg_name 5 S.nd, ?_⟩
    refine run_par 6 7 rfl S.nd (by decide) (ev_ixT (ev_pub 5) (ev_nat (i := 0)) .hd) (ev_ixT (ev_pub 5) (ev_nat (i := 1)) (.tl .hd)) ?_ (ps_par rfl S.nd rfl rfl (by decide) rfl rfl pa_w rfl)
    cases a1 with
    | none =>
      refine run_no (EvW.t (ew_and (u := true) (et_notN vn_opt (ev_ixT (ev_ixO 4 rfl (ev_pub 6) ga) (ev_nat (i := 0)) .hd)) (by intro h; cases h))) rfl ?_
      exact run_last (To.le (.cons .same (.cons .same (.cons .same (.cons .same (.cons .same (.cons .un (.cons .un (.cons .un (.cons .un .nil))))))))) fun _ _ g => g)
    | some a =>
      cases cv with
      | none =>
        refine run_no (EvW.t (ew_and (et_notN vn_opt (ev_ixT (ev_ixO 4 rfl (ev_pub 6) ga) (ev_nat (i := 0)) .hd)) fun _ => ew_and1 (et_notN vn_opt (ev_ixT (ev_pub 5) (ev_pub 3) hca)))) rfl ?_
        exact run_last (To.le (.cons .same (.cons .same (.cons .same (.cons .same (.cons .same (.cons .un (.cons .un (.cons .un (.cons .un .nil))))))))) fun _ _ g => g)
      | some cc =>
        refine run_yes (EvW.t (ew_and (et_notN vn_opt (ev_ixT (ev_ixO 4 rfl (ev_pub 6) ga) (ev_nat (i := 0)) .hd)) fun _ => ew_and1 (et_notN vn_opt (ev_ixT (ev_pub 5) (ev_pub 3) hca)))) rfl ?_
        refine run_asg 8 S.nd (ev_add (Ev.unopt (ev_ixT (ev_ixO 4 rfl (ev_pub 6) ga) (ev_nat (i := 0)) .hd)) (Ev.unopt (ev_ixT (ev_pub 5) (ev_pub 3) hca))) ?_
        cases q1 with
        | none =>
          refine run_yes (EvW.t (ew_or (u := true) (et_isN vn_opt (ev_ixT (ev_ixO 4 rfl (ev_pub 7) gb) (ev_nat (i := 0)) .hd)) (by intro h; cases h))) rfl ?_
          refine run_setL 4 rfl (ev_tup (ef_cons (Ev.opt (ev_pub 8)) (ef_one (Ev.opN (ev_pub 6))))) (ev_pub 7) (by rw [hlen]; exact hr2.2) ?_
          exact run_end (run_end (run_last (To.le (.cons .same (.cons .same (.cons .same (.cons .same (.cons .same (.cons .un (.cons .un (.cons .un (.cons .un .nil))))))))) fun _ _ g => g)))
        | some q =>
          refine run_if (EvW.t (ew_or (et_isN vn_opt (ev_ixT (ev_ixO 4 rfl (ev_pub 7) gb) (ev_nat (i := 0)) .hd)) fun _ => ew_or1 (et_lt (ev_pub 8) (Ev.unopt (ev_ixT (ev_ixO 4 rfl (ev_pub 7) gb) (ev_nat (i := 0)) .hd))))) (fun h => ?_) (fun h => run_end ?_)
          · have h : olt (a + cc) (some q) = true := h
            simp only [osum, h, if_true]
            refine run_setL 4 rfl (ev_tup (ef_cons (Ev.opt (ev_pub 8)) (ef_one (Ev.opN (ev_pub 6))))) (ev_pub 7) (by rw [hlen]; exact hr2.2) ?_
            exact run_end (run_end (run_last (To.le (.cons .same (.cons .same (.cons .same (.cons .same (.cons .same (.cons .un (.cons .un (.cons .un (.cons .un .nil))))))))) fun _ _ g => g)))
          · have h : olt (a + cc) (some q) = false := h
            simp only [osum, h]
            exact run_end (run_last (To.le (.cons .same (.cons .same (.cons .same (.cons .same (.cons .same (.cons .un (.cons .un (.cons .un (.cons .un .nil))))))))) fun _ _ g => g))
  · rw [List.take_length]
    refine run_pub 4 rfl ?_
    refine run_ret (ev_pub 4) (hret _ _ fun up' h' => ?_)
    have : up' = up := by cases up <;> cases up' <;> first | rfl | cases h'
    rw [this]
    rfl
abbrev C_up_sums (Pg : Program) (Wd : World) (K : PySem.W.Frag) (mg : Str → Option Value) (Bh : Heap) : Prop := Cal Pg Wd K mg Bh "up_sums" 3 ["order", "rows", "place"] (spF (fCons (rLst rNat) (fCons (rLst rRow) (fOne rNat))) (rLst rSum) (fun x => x.1.length ≤ 1000 ∧ RowsLt x.1.length x.2.1 ∧ x.2.2 < x.1.length) (fun x y => y = sumsOver x.1.length x.2.1 x.2.2 true))
set_option maxHeartbeats 2000000 in
theorem c_up_sums {Pg : Program} {Wd : World} {K : PySem.W.Frag} {mg : Str → Option Value} {Bh : Heap} (T : Hd K mg) (h_sums_over : C_sums_over Pg Wd K mg Bh) : C_up_sums Pg Wd K mg Bh := by
  obtain ⟨fd, F⟩ := T.f_up_sums
  have S : FnScope ["order", "rows", "place"] ["order", "rows", "place"] (defScope s_up_sums) := ⟨rfl, rfl, rfl, by decide +kernel, rfl, by decide +kernel, by decide +kernel⟩
  refine fn_ok F S T.g_up_sums (F.bindsN fun _ _ _ _ _ _ us hl => match us, hl with | [_, _, _], _ => rfl) rfl (fun cdv Ar ou st0 Hh Ee hr bb De xx hpre hret hnon => ?_)
  obtain ⟨order, rows, place⟩ := xx
  refine ⟨_, (.cons (.cons .one)), ?_⟩
  obtain ⟨hl, hrl, hp⟩ := hpre
  refine run_retP (ev_call h_sums_over (hr.mono (by decide)) (ef_cons (ev_pub 0) (ef_cons (ev_pub 1) (ef_cons (ev_pub 2) (ef_one (Ev.nat (n := if true then 2 else 3) (ev_globI rfl T.i_UP)))))) ⟨hl, hrl, hp, true, rfl⟩) (fun y hy => hret _ _ (hy true rfl))
abbrev C_down_sums (Pg : Program) (Wd : World) (K : PySem.W.Frag) (mg : Str → Option Value) (Bh : Heap) : Prop := Cal Pg Wd K mg Bh "down_sums" 3 ["order", "rows", "place"] (spF (fCons (rLst rNat) (fCons (rLst rRow) (fOne rNat))) (rLst rSum) (fun x => x.1.length ≤ 1000 ∧ RowsLt x.1.length x.2.1 ∧ x.2.2 < x.1.length) (fun x y => y = sumsOver x.1.length x.2.1 x.2.2 false))
set_option maxHeartbeats 2000000 in
theorem c_down_sums {Pg : Program} {Wd : World} {K : PySem.W.Frag} {mg : Str → Option Value} {Bh : Heap} (T : Hd K mg) (h_sums_over : C_sums_over Pg Wd K mg Bh) : C_down_sums Pg Wd K mg Bh := by
  obtain ⟨fd, F⟩ := T.f_down_sums
  have S : FnScope ["order", "rows", "place"] ["order", "rows", "place"] (defScope s_down_sums) := ⟨rfl, rfl, rfl, by decide +kernel, rfl, by decide +kernel, by decide +kernel⟩
  refine fn_ok F S T.g_down_sums (F.bindsN fun _ _ _ _ _ _ us hl => match us, hl with | [_, _, _], _ => rfl) rfl (fun cdv Ar ou st0 Hh Ee hr bb De xx hpre hret hnon => ?_)
  obtain ⟨order, rows, place⟩ := xx
  refine ⟨_, (.cons (.cons .one)), ?_⟩
  obtain ⟨hl, hrl, hp⟩ := hpre
  refine run_retP (ev_call h_sums_over (hr.mono (by decide)) (ef_cons (ev_pub 0) (ef_cons (ev_pub 1) (ef_cons (ev_pub 2) (ef_one (Ev.nat (n := if false then 2 else 3) (ev_globI rfl T.i_DOWN)))))) ⟨hl, hrl, hp, false, rfl⟩) (fun y hy => hret _ _ (hy false rfl))
abbrev C_meeting (Pg : Program) (Wd : World) (K : PySem.W.Frag) (mg : Str → Option Value) (Bh : Heap) : Prop := Cal Pg Wd K mg Bh "meeting" 1 ["order", "ups", "downs"] (spF (fCons (rLst rNat) (fCons (rLst rSum) (fOne (rLst rSum)))) rSum (fun x => x.2.1.length = x.1.length ∧ x.2.2.length = x.1.length ∧ ∀ p ∈ x.1, p < x.1.length) (fun x y => y = meetingL x.1 x.2.1 x.2.2))
set_option maxHeartbeats 2000000 in
theorem c_meeting {Pg : Program} {Wd : World} {K : PySem.W.Frag} {mg : Str → Option Value} {Bh : Heap} (T : Hd K mg)  : C_meeting Pg Wd K mg Bh := by
  obtain ⟨fd, F⟩ := T.f_meeting
  have S : FnScope ["order", "ups", "downs", "best", "place", "total"] ["order", "ups", "downs"] (defScope s_meeting) := ⟨rfl, rfl, rfl, by decide +kernel, rfl, by decide +kernel, by decide +kernel⟩
  refine fn_ok F S T.g_meeting (F.bindsN fun _ _ _ _ _ _ us hl => match us, hl with | [_, _, _], _ => rfl) rfl (fun cdv Ar ou st0 Hh Ee hr bb De xx hpre hret hnon => ?_)
  obtain ⟨order, ups, downs⟩ := xx
  refine ⟨_, (.cons (.cons .one)), ?_⟩
  obtain ⟨hu, hd, hp⟩ := hpre
  have hu : ups.length = order.length := hu
  have hd : downs.length = order.length := hd
  have hp : ∀ p ∈ order, p < order.length := hp
  refine run_asg 3 S.nd (ev_tup (ef_cons ev_non (ef_one ev_nonN))) ?_
  refine run_for rfl (ev_pub 0) (fun i => [.pub (rLst rNat) order, .pub (rLst rSum) ups, .pub (rLst rSum) downs, .pub rSum ((order.take i).foldl (meetStep ups downs) (none, none)), .un, .un]) (Le.refl _) (fun b1 hb1 i p hi => ?_) ?_
  · have hpl := hp p (List.mem_of_getElem? hi)
    rw [take_foldl hi]
    generalize (order.take i).foldl (meetStep ups downs) (none, none) = bst
    have ga : ups[p]? = some (ups.getD p (none, none)) := getD_get (by rw [hu]; exact hpl)
    have gb : downs[p]? = some (downs.getD p (none, none)) := getD_get (by rw [hd]; exact hpl)
    have hss : meetStep ups downs bst p = (match osum (ups.getD p (none, none)).1 (downs.getD p (none, none)).1 with
      | some t => if olt t bst.1 then (some t, some p) else bst
      | none => bst) := rfl
    rw [hss]
    generalize ups.getD p (none, none) = sa at ga
    generalize downs.getD p (none, none) = sb at gb
    obtain ⟨a1, a2⟩ := sa
    obtain ⟨d1, d2⟩ := sb
    obtain ⟨q1, q2⟩ := bst
    refine ⟨_, _, tg_name 4 S.nd, ?_⟩
    cases a1 with
    | none =>
      refine run_no (EvW.t (ew_and (u := true) (et_notN vn_opt (ev_ixT (ev_ix (ev_pub 1) (ev_pub 4) ga) (ev_nat (i := 0)) .hd)) (by intro h; cases h))) rfl ?_
      exact run_last (To.le (.cons .same (.cons .same (.cons .same (.cons .same (.cons .un (.cons .un .nil)))))) fun _ _ g => g)
    | some a =>
      cases d1 with
      | none =>
        refine run_no (EvW.t (ew_and (et_notN vn_opt (ev_ixT (ev_ix (ev_pub 1) (ev_pub 4) ga) (ev_nat (i := 0)) .hd)) fun _ => ew_and1 (et_notN vn_opt (ev_ixT (ev_ix (ev_pub 2) (ev_pub 4) gb) (ev_nat (i := 0)) .hd)))) rfl ?_
        exact run_last (To.le (.cons .same (.cons .same (.cons .same (.cons .same (.cons .un (.cons .un .nil)))))) fun _ _ g => g)
      | some d =>
        refine run_yes (EvW.t (ew_and (et_notN vn_opt (ev_ixT (ev_ix (ev_pub 1) (ev_pub 4) ga) (ev_nat (i := 0)) .hd)) fun _ => ew_and1 (et_notN vn_opt (ev_ixT (ev_ix (ev_pub 2) (ev_pub 4) gb) (ev_nat (i := 0)) .hd)))) rfl ?_
        refine run_asg 5 S.nd (ev_add (Ev.unopt (ev_ixT (ev_ix (ev_pub 1) (ev_pub 4) ga) (ev_nat (i := 0)) .hd)) (Ev.unopt (ev_ixT (ev_ix (ev_pub 2) (ev_pub 4) gb) (ev_nat (i := 0)) .hd))) ?_
        cases q1 with
        | none =>
          refine run_yes (EvW.t (ew_or (u := true) (et_isN vn_opt (ev_ixT (ev_pub 3) (ev_nat (i := 0)) .hd)) (by intro h; cases h))) rfl ?_
          refine run_asg 3 S.nd (ev_tup (ef_cons (Ev.opt (ev_pub 5)) (ef_one (Ev.opN (ev_pub 4))))) ?_
          exact run_end (run_end (run_last (To.le (.cons .same (.cons .same (.cons .same (.cons .same (.cons .un (.cons .un .nil)))))) fun _ _ g => g)))
        | some q =>
          refine run_if (EvW.t (ew_or (et_isN vn_opt (ev_ixT (ev_pub 3) (ev_nat (i := 0)) .hd)) fun _ => ew_or1 (et_lt (ev_pub 5) (Ev.unopt (ev_ixT (ev_pub 3) (ev_nat (i := 0)) .hd))))) (fun h => ?_) (fun h => run_end ?_)
          · have h : olt (a + d) (some q) = true := h
            simp only [osum, h, if_true]
            refine run_asg 3 S.nd (ev_tup (ef_cons (Ev.opt (ev_pub 5)) (ef_one (Ev.opN (ev_pub 4))))) ?_
            exact run_end (run_end (run_last (To.le (.cons .same (.cons .same (.cons .same (.cons .same (.cons .un (.cons .un .nil)))))) fun _ _ g => g)))
          · have h : olt (a + d) (some q) = false := h
            simp only [osum, h]
            exact run_end (run_last (To.le (.cons .same (.cons .same (.cons .same (.cons .same (.cons .un (.cons .un .nil)))))) fun _ _ g => g))
  · rw [List.take_length]
    exact run_ret (ev_pub 3) (hret _ _ rfl)
abbrev C_answer (Pg : Program) (Wd : World) (K : PySem.W.Frag) (mg : Str → Option Value) (Bh : Heap) : Prop := Cal Pg Wd K mg Bh "answer" 4 ["order", "rows", "start", "stop"] (spF (fCons (rLst rNat) (fCons (rLst rRow) (fCons rNat (fOne rNat)))) rSum (fun x => x.1.length ≤ 1000 ∧ (∀ p ∈ x.1, p < x.1.length) ∧ RowsLt x.1.length x.2.1 ∧ x.2.2.1 < x.1.length ∧ x.2.2.2 < x.1.length) (fun x y => y = answerL x.1 x.2.1 x.2.2.1 x.2.2.2))
set_option maxHeartbeats 2000000 in
theorem c_answer {Pg : Program} {Wd : World} {K : PySem.W.Frag} {mg : Str → Option Value} {Bh : Heap} (T : Hd K mg) (h_check_places : C_check_places Pg Wd K mg Bh) (h_up_sums : C_up_sums Pg Wd K mg Bh) (h_down_sums : C_down_sums Pg Wd K mg Bh) (h_meeting : C_meeting Pg Wd K mg Bh) : C_answer Pg Wd K mg Bh := by
  obtain ⟨fd, F⟩ := T.f_answer
  have S : FnScope ["order", "rows", "start", "stop"] ["order", "rows", "start", "stop"] (defScope s_answer) := ⟨rfl, rfl, rfl, by decide +kernel, rfl, by decide +kernel, by decide +kernel⟩
  refine fn_ok F S T.g_answer (F.bindsN fun _ _ _ _ _ _ us hl => match us, hl with | [_, _, _, _], _ => rfl) rfl (fun cdv Ar ou st0 Hh Ee hr bb De xx hpre hret hnon => ?_)
  obtain ⟨order, rows, start, stop⟩ := xx
  refine ⟨_, (.cons (.cons (.cons .one))), ?_⟩
  obtain ⟨hl, ho, hrl, h1, h2⟩ := hpre
  have h1 : start < order.length := h1
  have h2 : stop < order.length := h2
  refine run_drop (ev_call h_check_places (hr.mono (by decide)) (ef_cons (ev_pub 0) (ef_one (EvN.pub (ev_lst (ei_cons (ev_pub 2) (ei_cons (ev_pub 3) ef_nil1)) (by simp; exact sz_le' (by decide)))))) (by simp; exact ⟨h1, h2⟩)) ?_
  exact run_ret (ev_callE h_meeting (hr.mono (by decide)) (ef_cons (ev_pub 0) (ef_cons (ev_callE h_up_sums (hr.mono (by decide)) (ef_cons (ev_pub 0) (ef_cons (ev_pub 1) (ef_one (ev_pub 2)))) ⟨hl, hrl, h1⟩) (ef_one (ev_callE h_down_sums (hr.mono (by decide)) (ef_cons (ev_pub 0) (ef_cons (ev_pub 1) (ef_one (ev_pub 3)))) ⟨hl, hrl, h2⟩)))) ⟨sumsOver_len _ _ _ _, sumsOver_len _ _ _ _, ho⟩) (hret _ _ rfl)
abbrev C_answers (Pg : Program) (Wd : World) (K : PySem.W.Frag) (mg : Str → Option Value) (Bh : Heap) : Prop := Cal Pg Wd K mg Bh "answers" 4 ["order", "rows", "start", "stops"] (spF (fCons (rLst rNat) (fCons (rLst rRow) (fCons rNat (fOne (rLst rNat))))) (rLst rOpt) (fun x => x.1.length ≤ 1000 ∧ (∀ p ∈ x.1, p < x.1.length) ∧ RowsLt x.1.length x.2.1 ∧ x.2.2.1 < x.1.length ∧ (∀ p ∈ x.2.2.2, p < x.1.length) ∧ x.2.2.2.length ≤ 1000) (fun x y => y = answersL x.1 x.2.1 x.2.2.1 x.2.2.2))
set_option maxHeartbeats 2000000 in
theorem c_answers {Pg : Program} {Wd : World} {K : PySem.W.Frag} {mg : Str → Option Value} {Bh : Heap} (T : Hd K mg) (h_check_places : C_check_places Pg Wd K mg Bh) (h_up_sums : C_up_sums Pg Wd K mg Bh) (h_down_sums : C_down_sums Pg Wd K mg Bh) (h_meeting : C_meeting Pg Wd K mg Bh) : C_answers Pg Wd K mg Bh := by
  obtain ⟨fd, F⟩ := T.f_answers
  have S : FnScope ["order", "rows", "start", "stops", "ups", "stop"] ["order", "rows", "start", "stops"] (defScope s_answers) := ⟨rfl, rfl, rfl, by decide +kernel, rfl, by decide +kernel, by decide +kernel⟩
  refine fn_ok F S T.g_answers (F.bindsN fun _ _ _ _ _ _ us hl => match us, hl with | [_, _, _, _], _ => rfl) rfl (fun cdv Ar ou st0 Hh Ee hr bb De xx hpre hret hnon => ?_)
  obtain ⟨order, rows, start, stops⟩ := xx
  refine ⟨_, (.cons (.cons (.cons .one))), ?_⟩
  obtain ⟨hl, ho, hrl, h1, h2, h3⟩ := hpre
  have h1 : start < order.length := h1
  have h2 : ∀ p ∈ stops, p < order.length := h2
  have h3 : stops.length ≤ 1000 := h3
  refine run_drop (ev_call h_check_places (hr.mono (by decide)) (ef_cons (ev_pub 0) (ef_one (EvN.pub (ev_lst (ei_cons (ev_pub 2) (ei_star (ev_pub 3) ef_nil1)) (by simp; exact sz_le' (by omega)))))) (by simp; exact ⟨h1, h2⟩)) ?_
  refine run_asg 4 S.nd (ev_callE h_up_sums (hr.mono (by decide)) (ef_cons (ev_pub 0) (ef_cons (ev_pub 1) (ef_one (ev_pub 2)))) ⟨hl, hrl, h1⟩) ?_
  refine run_ret (EvN.pub (ev_lc (lc_l (r := rOpt) (g := fun t => (answerL order rows start t).1) (Γt := fun t => [.pub (rLst rNat) order, .pub (rLst rRow) rows, .pub rNat start, .pub (rLst rNat) stops, .pub (rLst rSum) (sumsOver order.length rows start true), .pub rNat t]) [("stop", 5)] [5] rfl S.nd (Ev.l (ev_pub 3)) (sz_le (by omega)) (by show blkC ["order", "rows", "start", "stops", "ups", "stop"] (defScope s_answers) _ _ = true; decide +kernel) (fun t ht s0 H0 C cl fp0 => tg_name 5 S.nd) (fun t ht s0 H0 C cl fp0 => ?_)))) (hret _ _ rfl)
  exact ev_ixT (ev_callE h_meeting (hr.mono (by decide)) (ef_cons (ev_pub 0) (ef_cons (ev_pub 4) (ef_one (ev_callE h_down_sums (hr.mono (by decide)) (ef_cons (ev_pub 0) (ef_cons (ev_pub 1) (ef_one (ev_pub 5)))) ⟨hl, hrl, h2 t ht⟩)))) ⟨sumsOver_len _ _ _ _, sumsOver_len _ _ _ _, ho⟩) (ev_nat (i := 0)) .hd
end Ov

/-! ## F4 -/
namespace Ov
open PySem PySem.Spec PyProof.Rows L2 T

theorem NetOk.take {N : Net} (h : NetOk N) (i : Nat) : RowsOk N.1 ((N.2.take i).foldl joinStep (List.replicate N.1 [])) := joins_ok (RowsOk.rep _) fun l m => h.lt l (List.mem_of_mem_take m)
abbrev C_joined (Pg : Program) (Wd : World) (K : PySem.W.Frag) (mg : Str → Option Value) (Bh : Heap) : Prop := Cal Pg Wd K mg Bh "joined" 1 ["net"] (spN (fOne rNet) oRows (fun N => NetOk N) (fun N y => y = joinedL N))
set_option maxHeartbeats 2000000 in
theorem c_joined {Pg : Program} {Wd : World} {K : PySem.W.Frag} {mg : Str → Option Value} {Bh : Heap} (T : Hd K mg)  : C_joined Pg Wd K mg Bh := by
  obtain ⟨fd, F⟩ := T.f_joined
  have S : FnScope ["net", "rows", "a", "b", "_"] ["net"] (defScope s_joined) := ⟨rfl, rfl, rfl, by decide +kernel, rfl, by decide +kernel, by decide +kernel⟩
  refine (fnN_ok F S (F.bindsN fun _ _ _ _ _ _ us hl => match us, hl with | [_], _ => rfl) rfl (fun cdv Ar ou st0 Hh Ee hr bb De xx hpre hret => ?_)).cal T.g_joined
  obtain ⟨n, ls⟩ := xx
  refine ⟨_, .one, ?_⟩
  have hN : NetOk (n, ls) := hpre
  have hn : n ≤ 1000 := hN.n
  refine run_rowsNew 1 4 rfl S.nd T.b_range (ev_ixT (ev_pub 0) (ev_nat (i := 0)) .hd) (show n < 100000 by omega) (by show blkC ["net", "rows", "a", "b", "_"] (defScope s_joined) _ _ = true; decide +kernel) ?_ (fun _ _ _ _ _ => pg_name S.nd rfl (Or.inl rfl))
  refine run_for rfl (ev_ixT (ev_pub 0) (ev_nat (i := 1)) (.tl .one)) (fun i => [.pub rNet (n, ls), .own oRows ((ls.take i).foldl joinStep (List.replicate n [])), .un, .un, .un]) (Le.refl _) (fun b1 hb1 i l hi => ?_) ?_
  · have hk := hN.take i
    have hk : RowsOk n ((ls.take i).foldl joinStep (List.replicate n [])) := hk
    have hl : l.1 < n ∧ l.2.1 < n := hN.lt l (List.mem_of_getElem? hi)
    rw [take_foldl hi]
    generalize (ls.take i).foldl joinStep (List.replicate n []) = R at hk
    obtain ⟨a, b, th, bk⟩ := l
    have hl : a < n ∧ b < n := hl
    have hk2 := hk.ains hl.1 hl.2
    refine ⟨_, _, tg_tup rfl (tgs_cons (tg_name 2 S.nd) (tgs_cons (tg_name 3 S.nd) (tgs_cons (tg_name 4 S.nd) (tgs_one (tg_name 4 S.nd))))), ?_⟩
    refine run_rowSet 1 (hu_of hr) rfl hold_own (ev_pub 2) (ev_pub 3) (by rw [hk.len]; exact hl.1) (fun ks m => by have := hk.mem ks m; omega) ?_
    refine run_rowSet 1 (hu_of hr) rfl hold_own (ev_pub 3) (ev_pub 2) (by rw [hk2.len]; exact hl.2) (fun ks m => by have := hk2.mem ks m; omega) ?_
    exact run_last (To.le (.cons .same (.cons .same (.cons .un (.cons .un (.cons .un .nil))))) fun _ _ g => g)
  · rw [List.take_length]
    exact run_retN 1 rfl (hret _ rfl)

structure TakeOk (n : Nat) (r : List (List Nat)) (p : Nat) : Prop where
  nle : n ≤ 1000
  ok : RowsOk n r
  sy : SymR r
  p : p < n
abbrev C_take_out (Pg : Program) (Wd : World) (K : PySem.W.Frag) (mg : Str → Option Value) (Bh : Heap) : Prop := Cal Pg Wd K mg Bh "take_out" 1 ["rows", "place"] (spM oRows (fOne rNat) rNon (fun r p => TakeOk r.length r p) (fun r p z x => x = takeOut r p))
set_option maxHeartbeats 2000000 in
theorem c_take_out {Pg : Program} {Wd : World} {K : PySem.W.Frag} {mg : Str → Option Value} {Bh : Heap} (T : Hd K mg)  : C_take_out Pg Wd K mg Bh := by
  obtain ⟨fd, F⟩ := T.f_take_out
  have S : FnScope ["rows", "place", "around", "a", "b"] ["rows", "place"] (defScope s_take_out) := ⟨rfl, rfl, rfl, by decide +kernel, rfl, by decide +kernel, by decide +kernel⟩
  refine (fnM_ok F S (F.bindsN fun _ _ _ _ _ _ us hl => match us, hl with | [_, _], _ => rfl) rfl (fun cdv Ar ou st0 Hh Ee hr bb De v0 rows xx hpre hret hnon => ?_)).cal T.g_take_out
  obtain ⟨place, rfl⟩ : ∃ y, y = xx := ⟨xx, rfl⟩
  refine ⟨_, .one, ?_⟩
  have hT : TakeOk rows.length rows place := hpre
  have hn := hT.nle
  generalize rows.length = n at hT hn
  have hpn : place < rows.length := by rw [hT.ok.len]; exact hT.p
  refine run_asg 2 S.nd (EvN.pub (ev_listK rfl T.b_list (ev_ix (r := rKeys) (ev_peek (o := oRows) 0 rfl peek_slf) (ev_pub 1) (getD_get (d := []) hpn)))) ?_
  have har : ∀ a ∈ rows.getD place [], a < n := fun a m => hT.ok.lt place a m
  have hal := hT.ok.le place
  refine run_for rfl (ev_pub 2) (fun i => [.slf v0 oRows (((rows.getD place []).take i).foldl (takeStep (rows.getD place []) place) rows), .pub rNat place, .pub (rLst rNat) (rows.getD place []), .un, .un]) (Le.refl _) (fun b1 hb1 i a hi => ?_) ?_
  · have ham := List.mem_of_getElem? hi
    have han := har a ham
    have hti : ∀ c ∈ (rows.getD place []).take i, c < n := fun c m => har c (List.mem_of_mem_take m)
    have hR := takes_ok (p := place) (around := rows.getD place []) hT.ok hti har
    have hpl : place ∈ (((rows.getD place []).take i).foldl (takeStep (rows.getD place []) place) rows).getD a [] := by
      refine (adj_takes (hT.sy.ir place) hT.ok hti har).mpr (.inl ⟨?_, hT.sy.sy _ _ ham⟩)
      intro m
      obtain ⟨j, hj⟩ := List.getElem?_of_mem m
      have hl := (List.getElem?_eq_some_iff.mp hj).1
      rw [List.length_take] at hl
      rw [getElem?_take_lt (by omega)] at hj
      have := (List.getElem?_inj (List.getElem?_eq_some_iff.mp hi).1 (hT.ok.nd place)).mp (hi.trans hj.symm)
      omega
    rw [take_foldl hi]
    generalize ((rows.getD place []).take i).foldl (takeStep (rows.getD place []) place) rows = R at hR hpl
    refine ⟨_, _, tg_name 3 S.nd, ?_⟩
    refine run_rowPop 0 rfl hold_slf (ev_pub 3) (ev_pub 1) (by rw [hR.len]; exact han) hpl ?_
    have hD := hR.drop1 (p := place) han
    refine run_for rfl (ev_pub 2) (fun j => [.slf v0 oRows (((rows.getD place []).take j).foldl (fun r b => if a ≠ b then ains r a b else r) (drop1 R a place)), .pub rNat place, .pub (rLst rNat) (rows.getD place []), .pub rNat a, .un]) (Le.refl _) (fun b2 hb2 j c hj => ?_) ?_
    · have hcn := har c (List.mem_of_getElem? hj)
      have hJ := join2_ok (around := rows.getD place []) (a := a) (xs := (rows.getD place []).take j) hD han fun c m => har c (List.mem_of_mem_take m)
      rw [take_foldl hj]
      generalize ((rows.getD place []).take j).foldl (fun r b => if a ≠ b then ains r a b else r) (drop1 R a place) = R2 at hJ
      refine ⟨_, _, tg_name 4 S.nd, ?_⟩
      refine run_if (et_ne sc_nat (ev_pub 3) (ev_pub 4)) (fun h => ?_) (fun h => run_end ?_)
      · have h : a ≠ c := by simpa using h
        simp only [if_pos h]
        refine run_rowSet 0 (hu_of hr) rfl hold_slf (ev_pub 3) (ev_pub 4) (by rw [hJ.len]; exact han) (fun ks m => by have := hJ.mem ks m; omega) ?_
        exact run_end (run_last (To.le (.cons .same (.cons .same (.cons .same (.cons .same (.cons .un .nil))))) fun _ _ g => g))
      · have h : ¬ a ≠ c := by simpa using h
        simp only [if_neg h]
        exact run_last (To.le (.cons .same (.cons .same (.cons .same (.cons .same (.cons .un .nil))))) fun _ _ g => g)
    · rw [List.take_length]
      exact run_last (To.le (.cons .same (.cons .same (.cons .same (.cons .un (.cons .un .nil))))) fun _ _ g => g)
  · rw [List.take_length]
    refine run_rowClear 0 rfl hold_slf (ev_pub 1) (by rw [(takes_ok (p := place) (around := rows.getD place []) hT.ok har har).len]; exact hT.p) ?_
    exact run_nil (hnon _ () _ rfl rfl fun _ => rfl)
end Ov

/-! ## F5 -/
namespace Ov
open PySem PySem.Spec PyProof.Rows L2 T

abbrev up0 (n : Nat) (ls : List Link) : List (List Nat) × List (List Nat) := (joinedL (n, ls), List.replicate n [])
theorem map_const {α : Type} (n : Nat) (x : α) : (List.range n).map (fun _ => x) = List.replicate n x := by
  apply List.ext_getElem?
  intro i
  by_cases h : i < n
  · rw [map_range_get _ h, List.getElem?_replicate, if_pos h]
  · rw [List.getElem?_eq_none (by simp; omega), List.getElem?_eq_none (by simp; omega)]
abbrev C_upper (Pg : Program) (Wd : World) (K : PySem.W.Frag) (mg : Str → Option Value) (Bh : Heap) : Prop := Cal Pg Wd K mg Bh "upper" 3 ["net", "order"] (spF (fCons rNet (fOne (rLst rNat))) (rLst (rLst rNat)) (fun x => NetOk x.1 ∧ IsOrder x.1.1 x.2) (fun x y => y = upperL x.1 x.2))
set_option maxHeartbeats 2000000 in
theorem c_upper {Pg : Program} {Wd : World} {K : PySem.W.Frag} {mg : Str → Option Value} {Bh : Heap} (T : Hd K mg) (h_ranks : C_ranks Pg Wd K mg Bh) (h_joined : C_joined Pg Wd K mg Bh) (h_take_out : C_take_out Pg Wd K mg Bh) : C_upper Pg Wd K mg Bh := by
  obtain ⟨fd, F⟩ := T.f_upper
  have S : FnScope ["net", "order", "rank", "rows", "result", "_", "place", "found", "other"] ["net", "order"] (defScope s_upper) := ⟨rfl, rfl, rfl, by decide +kernel, rfl, by decide +kernel, by decide +kernel⟩
  refine fn_ok F S T.g_upper (F.bindsN fun _ _ _ _ _ _ us hl => match us, hl with | [_, _], _ => rfl) rfl (fun cdv Ar ou st0 Hh Ee hr bb De xx hpre hret hnon => ?_)
  obtain ⟨⟨n, ls⟩, order⟩ := xx
  refine ⟨_, (.cons .one), ?_⟩
  obtain ⟨hN, ho⟩ := hpre
  have hN : NetOk (n, ls) := hN
  have ho : IsOrder n order := ho
  have hn : n ≤ 1000 := hN.n
  have ho' : IsOrder order.length order := by rw [ho.len]; exact ho
  refine run_asg 2 S.nd (ev_callE h_ranks (hr.mono (by decide)) (ef_one (ev_pub 1)) ⟨ho', by rw [ho.len]; exact hn⟩) ?_
  refine run_asgN 3 S.nd (ev_callN h_joined (hr.mono (by decide)) (ef_one (ev_pub 0)) hN) ?_
  refine run_asgLc 4 (lc_r (r := rLst rNat) (g := fun _ => []) (Γt := fun x => [.pub rNet (n, ls), .pub (rLst rNat) order, .pub (rLst rNat) (rankL order), .own oRows (joinedL (n, ls)), .un, .pub rNat x, .un, .un, .un]) [("_", 5)] [5] rfl S.nd T.b_range (ev_ixT (ev_pub 0) (ev_nat (i := 0)) .hd) (sz_le (by omega)) (by show blkC ["net", "order", "rank", "rows", "result", "_", "place", "found", "other"] (defScope s_upper) _ _ = true; decide +kernel) (fun t ht s0 H0 C cl fp0 => tg_name 5 S.nd) (fun t ht s0 H0 C cl fp0 => EvN.pub ev_nilL)) ?_
  rw [map_const n ([] : List Nat)]
  refine run_for rfl (ev_pub 1) (fun i => [.pub rNet (n, ls), .pub (rLst rNat) order, .pub (rLst rNat) (rankL order), .own oRows ((order.take i).foldl (upStep (rankL order)) (up0 n ls)).1, .own (oLst (rLst rNat)) ((order.take i).foldl (upStep (rankL order)) (up0 n ls)).2, .un, .un, .un, .un]) (Le.refl _) (fun b1 hb1 i p hi => ?_) ?_
  · have hpn : p < n := ho.lt p (List.mem_of_getElem? hi)
    have hti : ∀ x ∈ order.take i, x < n := fun x m => ho.lt x (List.mem_of_mem_take m)
    have hR : RowsOk n ((order.take i).foldl (upStep (rankL order)) (up0 n ls)).1 ∧ SymR ((order.take i).foldl (upStep (rankL order)) (up0 n ls)).1 := by
      rw [ups_fst]
      exact takeOuts_ok (joined_ok hN.lt) (joined_sym hN.lt hN.ne) hti
    have hL : ((order.take i).foldl (upStep (rankL order)) (up0 n ls)).2.length = n := (ups_snd (s := up0 n ls) (joined_ok hN.lt) (joined_sym hN.lt hN.ne) hti (by simp) fun x => by
      rw [List.getD_eq_getElem?_getD, List.getElem?_replicate]
      split <;> simp).1
    rw [take_foldl hi]
    generalize (order.take i).foldl (upStep (rankL order)) (up0 n ls) = s at hR hL
    obtain ⟨R, res⟩ := s
    obtain ⟨hR, hS⟩ := hR
    have hR : RowsOk n R := hR
    have hL : res.length = n := hL
    have hle := hR.le p
    have hrk : ∀ o ∈ R.getD p [], (rankL order)[o]? = some ((rankL order).getD o 0) := fun o m => getD_get (by unfold rankL; rw [List.length_map, List.length_range, ho.len]; exact hR.lt p o m)
    refine ⟨_, _, tg_name 6 S.nd, ?_⟩
    refine run_asg 7 S.nd (EvN.pub (ev_sortP T.b_sorted (EvN.pub (ev_lcRow (r := rPP) (g := fun o => ((rankL order).getD o 0, o)) (Γt := fun o => [.pub rNet (n, ls), .pub (rLst rNat) order, .pub (rLst rNat) (rankL order), .un, .own (oLst (rLst rNat)) res, .un, .pub rNat p, .un, .pub rNat o]) 3 [("other", 8)] [8] rfl S.nd rfl hold_own (ev_pub 6) (by rw [hR.len]; exact hpn) (by omega) (by show blkC ["net", "order", "rank", "rows", "result", "_", "place", "found", "other"] (defScope s_upper) _ _ = true; decide +kernel) (fun t ht s0 H0 C cl fp0 => tg_name 8 S.nd) (fun t ht s0 H0 C cl fp0 => ev_tup (ef_cons (ev_ix (ev_pub 2) (ev_pub 8) (hrk t ht)) (ef_one (ev_pub 8)))))))) ?_
    refine run_setL (x := upFound (rankL order) R p) 4 rfl (EvN.pub (ev_lc (lc_l (r := rNat) (s := rPP) (g := fun q => q.2) (Γt := fun q => [.pub rNet (n, ls), .pub (rLst rNat) order, .pub (rLst rNat) (rankL order), .own oRows R, .own (oLst (rLst rNat)) res, .pub rNat q.1, .pub rNat p, .pub (rLst rPP) (sortP ((R.getD p []).map fun o => ((rankL order).getD o 0, o))), .pub rNat q.2]) [("_", 5), ("other", 8)] [5, 8] rfl S.nd (Ev.l (ev_pub 7)) (sz_le (by unfold sortP; rw [List.length_mergeSort, List.length_map]; omega)) (by show blkC ["net", "order", "rank", "rows", "result", "_", "place", "found", "other"] (defScope s_upper) _ _ = true; decide +kernel) (fun t ht s0 H0 C cl fp0 => tg_tup rfl (tgs_cons (tg_name 5 S.nd) (tgs_one (tg_name 8 S.nd)))) (fun t ht s0 H0 C cl fp0 => ev_pub 8)))) (ev_pub 6) (by rw [hL]; exact hpn) ?_
    refine run_dropM (em_fun 3 h_take_out (hr.mono (by decide)) rfl hold_own (ef_one (ev_pub 6)) ⟨by rw [hR.len]; exact hn, by rw [hR.len]; exact hR, hS, by rw [hR.len]; exact hpn⟩) (fun z Γ' h => ?_)
    obtain ⟨x', hx, rfl⟩ := h
    rw [hx]
    exact run_last (To.le (.cons .same (.cons .same (.cons .same (.cons .same (.cons .same (.cons .un (.cons .un (.cons .un (.cons .un .nil))))))))) fun _ _ g => g)
  · rw [List.take_length]
    refine run_pub 4 rfl ?_
    exact run_ret (ev_pub 4) (hret _ _ rfl)

abbrev C_pairs (Pg : Program) (Wd : World) (K : PySem.W.Frag) (mg : Str → Option Value) (Bh : Heap) : Prop := Cal Pg Wd K mg Bh "pairs" 4 ["net", "order"] (spF (fCons rNet (fOne (rLst rNat))) (rLst rPP) (fun x => NetOk x.1 ∧ IsOrder x.1.1 x.2) (fun x y => y = pairsL x.1 x.2))
set_option maxHeartbeats 2000000 in
theorem c_pairs {Pg : Program} {Wd : World} {K : PySem.W.Frag} {mg : Str → Option Value} {Bh : Heap} (T : Hd K mg) (h_upper : C_upper Pg Wd K mg Bh) : C_pairs Pg Wd K mg Bh := by
  obtain ⟨fd, F⟩ := T.f_pairs
  have S : FnScope ["net", "order", "rows", "u", "v"] ["net", "order"] (defScope s_pairs) := ⟨rfl, rfl, rfl, by decide +kernel, rfl, by decide +kernel, by decide +kernel⟩
  refine fn_ok F S T.g_pairs (F.bindsN fun _ _ _ _ _ _ us hl => match us, hl with | [_, _], _ => rfl) rfl (fun cdv Ar ou st0 Hh Ee hr bb De xx hpre hret hnon => ?_)
  obtain ⟨⟨n, ls⟩, order⟩ := xx
  refine ⟨_, (.cons .one), ?_⟩
  obtain ⟨hN, ho⟩ := hpre
  have hN : NetOk (n, ls) := hN
  have ho : IsOrder n order := ho
  have hn : n ≤ 1000 := hN.n
  have hu := upper_len hN ho
  have hpl := pairs_len hN ho
  have hpl : (pairsL (n, ls) order).length ≤ n * n := hpl
  have hnn : n * n ≤ 1000 * 1000 := Nat.mul_le_mul hn hn
  refine run_asg 2 S.nd (ev_callE h_upper (hr.mono (by decide)) (ef_cons (ev_pub 0) (ef_one (ev_pub 1))) ⟨hN, ho⟩) ?_
  refine run_ret (EvN.pub (ev_lc2 (r := rPP) (s := rNat) (s1 := rNat) (xs := order) (zs := fun u => (upperL (n, ls) order).getD u []) (g := fun u v => (u, v)) (Γt := fun u => [.pub rNet (n, ls), .pub (rLst rNat) order, .pub (rLst (rLst rNat)) (upperL (n, ls) order), .pub rNat u, .un]) (Γ2 := fun u v => [.pub rNet (n, ls), .pub (rLst rNat) order, .pub (rLst (rLst rNat)) (upperL (n, ls) order), .pub rNat u, .pub rNat v]) [("u", 3), ("v", 4)] [4] [3] [4] rfl S.nd (Ev.l (ev_pub 1)) (sz_le (by show (pairsL (n, ls) order).length ≤ _; omega)) (by show blkC ["net", "order", "rows", "u", "v"] (defScope s_pairs) _ _ = true; decide +kernel) (fun t ht s0 H0 C cl fp0 => tg_name 3 S.nd) (fun t ht s0 H0 C cl fp0 => ev_ix (ev_pub 2) (ev_pub 3) (getD_get (by rw [hu.1]; exact ho.lt t ht))) (fun t ht v hv s0 H0 C cl fp0 => tg_name 4 S.nd) (fun t ht v hv s0 H0 C cl fp0 => ev_tup (ef_cons (ev_pub 3) (ef_one (ev_pub 4)))))) (hret _ _ rfl)
end Ov

/-! ## F6 -/
namespace Ov
open PySem PySem.Spec PyProof.Rows L2 T

theorem two_take {α β : Type} {f : β → α → β} {s : β} {x y : α} : ([x, y].take 0).foldl f s = s ∧ ([x, y].take 1).foldl f s = f s x ∧ ([x, y].take 2).foldl f s = f (f s x) y := ⟨rfl, rfl, rfl⟩
abbrev C_triangles (Pg : Program) (Wd : World) (K : PySem.W.Frag) (mg : Str → Option Value) (Bh : Heap) : Prop := Cal Pg Wd K mg Bh "triangles" 3 ["found", "order"] (spF (fCons (rLst rPP) (fOne (rLst rNat))) (rTab (rLst rNat)) (fun x => IsOrder x.2.length x.2 ∧ TriOk x.1 x.2) (fun x y => y = trianglesL x.1 x.2))
set_option maxHeartbeats 2000000 in
theorem c_triangles {Pg : Program} {Wd : World} {K : PySem.W.Frag} {mg : Str → Option Value} {Bh : Heap} (T : Hd K mg) (h_ranks : C_ranks Pg Wd K mg Bh) : C_triangles Pg Wd K mg Bh := by
  obtain ⟨fd, F⟩ := T.f_triangles
  have S : FnScope ["found", "order", "rank", "upper", "lower", "low", "high", "first", "second"] ["found", "order"] (defScope s_triangles) := ⟨rfl, rfl, rfl, by decide +kernel, rfl, by decide +kernel, by decide +kernel⟩
  refine fn_ok F S T.g_triangles (F.bindsN fun _ _ _ _ _ _ us hl => match us, hl with | [_, _], _ => rfl) rfl (fun cdv Ar ou st0 Hh Ee hr bb De xx hpre hret hnon => ?_)
  obtain ⟨found, order⟩ := xx
  refine ⟨_, (.cons .one), ?_⟩
  obtain ⟨ho, hT⟩ := hpre
  have ho : IsOrder order.length order := ho
  have hT : TriOk found order := hT
  have hn := hT.n
  have hfl := pp_len hT.nd hT.lt
  have hnn : order.length * order.length ≤ 200 * 200 := Nat.mul_le_mul hn hn
  have hus : ∀ l, ((tget (upDict found) l).getD []).length ≤ order.length := fun l => by rw [upDict_get]; exact ups_len hT.nd (fun p m => (hT.lt p m).2) l
  refine run_asg 2 S.nd (ev_callE h_ranks (hr.mono (by decide)) (ef_one (ev_pub 1)) ⟨ho, by omega⟩) ?_
  refine run_asgN 3 S.nd ev_mlK ?_
  refine run_asgN 4 S.nd ev_mlT ?_
  refine run_for rfl (ev_pub 0) (fun i => [.pub (rLst rPP) found, .pub (rLst rNat) order, .pub (rLst rNat) (rankL order), .own (oML kdI) (upDict (found.take i)), .own (oML kdP) (low0 (found.take i)), .un, .un, .un, .un]) (Le.refl _) (fun b1 hb1 i p hi => ?_) ?_
  · have hil := (List.getElem?_eq_some_iff.mp hi).1
    have h1 : (upDict (found.take i)).length ≤ (found.take i).length := by have := upFold_len (found.take i) []; simpa [upDict] using this
    have h2 : (low0 (found.take i)).length ≤ (found.take i).length := by have := low0_len' (found.take i) []; simpa [low0] using this
    have h3 : ((tget (upDict (found.take i)) p.1).getD []).length ≤ (found.take i).length := by
      rw [upDict_get, List.length_map]
      exact List.length_filter_le _ _
    rw [List.length_take] at h1 h2 h3
    have hnew : tget (low0 (found.take i)) p = none := by
      rw [low0_get, if_neg]
      intro m
      obtain ⟨j, hj⟩ := List.getElem?_of_mem m
      have hl := (List.getElem?_eq_some_iff.mp hj).1
      rw [List.length_take] at hl
      rw [getElem?_take_lt (by omega)] at hj
      have := (List.getElem?_inj hil hT.nd).mp (hi.trans hj.symm)
      omega
    have e1 : upDict (found.take (i + 1)) = dapp (upDict (found.take i)) p.1 p.2 := by unfold upDict; rw [take_foldl hi]
    have e2 : low0 (found.take (i + 1)) = tput (low0 (found.take i)) p [] := by unfold low0; rw [take_foldl hi]
    rw [e1, e2]
    obtain ⟨a, c⟩ := p
    refine ⟨_, _, tg_tup rfl (tgs_cons (tg_name 5 S.nd) (tgs_one (tg_name 6 S.nd))), ?_⟩
    refine run_mlSetd 3 rfl hold_own (fun _ => hold_own) (ev_pub 5) (ev_pub 6) (ev_pub 6) (sz_le (show ((tget (upDict (found.take i)) a).getD []).length ≤ _ by have h3 : ((tget (upDict (found.take i)) a).getD []).length ≤ min i found.length := h3; omega)) (sz_le (by omega)) ?_
    refine run_mlNew 4 (hu_of hr) rfl hold_own (ev_tup (ef_cons (ev_pub 5) (ef_one (ev_pub 6)))) hnew (sz_le (by omega)) ?_
    exact run_last (To.le (.cons .same (.cons .same (.cons .same (.cons .same (.cons .same (.cons .un (.cons .un (.cons .un (.cons .un .nil))))))))) fun _ _ g => g)
  · rw [List.take_length]
    refine run_pub 3 rfl ?_
    refine run_for rfl (ev_pub 1) (fun i => [.pub (rLst rPP) found, .pub (rLst rNat) order, .pub (rLst rNat) (rankL order), .pub (rDic (rLst rNat)) (upDict found), .own (oML kdP) ((order.take i).foldl (triStep (rankL order) (upDict found)) (low0 found)), .un, .un, .un, .un]) (Le.refl _) (fun b1 hb1 i l hi => ?_) ?_
    · have hil := (List.getElem?_eq_some_iff.mp hi).1
      have hS := LowOk.out (rank := rankL order) (ud := upDict found) (m := order.length) hus (xs := order.take i) (low0_ok found)
      rw [take_foldl hi]
      generalize (order.take i).foldl (triStep (rankL order) (upDict found)) (low0 found) = t at hS
      have hc : (order.take i).length * (order.length * order.length) ≤ 200 * (200 * 200) := Nat.mul_le_mul (by rw [List.length_take]; omega) hnn
      have hS := hS.mono (e := 8000000) (by omega)
      have hul := hus l
      have hmem : ∀ f, f ∈ (tget (upDict found) l).getD [] → (l, f) ∈ found := fun f m => mem_ups.mp m
      refine ⟨_, _, tg_name 5 S.nd, ?_⟩
      refine run_for rfl (ev_getK2 (hu_of hr) (ev_pub 3) (ev_pub 5) (EvN.pub ev_nilL)) (fun j => [.pub (rLst rPP) found, .pub (rLst rNat) order, .pub (rLst rNat) (rankL order), .pub (rDic (rLst rNat)) (upDict found), .own (oML kdP) ((((tget (upDict found) l).getD []).take j).foldl (fun t f => triIn (rankL order) l f ((tget (upDict found) l).getD []) t) t), .pub rNat l, .un, .un, .un]) (Le.refl _) (fun b2 hb2 j f hj => ?_) ?_
      · have hS2 := LowOk.mid (rank := rankL order) (low := l) (vs := (tget (upDict found) l).getD []) (us := ((tget (upDict found) l).getD []).take j) hS
        have hc2 : (((tget (upDict found) l).getD []).take j).length * ((tget (upDict found) l).getD []).length ≤ 200 * 200 := Nat.mul_le_mul (by rw [List.length_take]; omega) (by omega)
        have hS2 := hS2.mono (e := 8040000) (by omega)
        have hlf := hmem f (List.mem_of_getElem? hj)
        rw [take_foldl hj, triIn_eq]
        generalize (((tget (upDict found) l).getD []).take j).foldl (fun t f => triIn (rankL order) l f ((tget (upDict found) l).getD []) t) t = t2 at hS2
        refine ⟨_, _, tg_name 7 S.nd, ?_⟩
        refine run_for rfl (ev_getK2 (hu_of hr) (ev_pub 3) (ev_pub 5) (EvN.pub ev_nilL)) (fun k => [.pub (rLst rPP) found, .pub (rLst rNat) order, .pub (rLst rNat) (rankL order), .pub (rDic (rLst rNat)) (upDict found), .own (oML kdP) ((((tget (upDict found) l).getD []).take k).foldl (triOne (rankL order) l f) t2), .pub rNat l, .un, .pub rNat f, .un]) (Le.refl _) (fun b3 hb3 k s hk => ?_) ?_
        · have hS3 := LowOk.inn (rank := rankL order) (low := l) (f := f) (us := ((tget (upDict found) l).getD []).take k) hS2
          have hS3 := hS3.mono (e := 8050000) (by rw [List.length_take]; omega)
          have hls := hmem s (List.mem_of_getElem? hk)
          rw [take_foldl hk]
          generalize (((tget (upDict found) l).getD []).take k).foldl (triOne (rankL order) l f) t2 = t3 at hS3
          have gf : (rankL order)[f]? = some (rk order f) := getD_get (by unfold rankL; rw [List.length_map, List.length_range]; exact (hT.lt _ hlf).2)
          have gs : (rankL order)[s]? = some (rk order s) := getD_get (by unfold rankL; rw [List.length_map, List.length_range]; exact (hT.lt _ hls).2)
          refine ⟨_, _, tg_name 8 S.nd, ?_⟩
          unfold triOne
          refine run_if (et_ltN (ev_ix (ev_pub 2) (ev_pub 7) gf) (ev_ix (ev_pub 2) (ev_pub 8) gs)) (fun h => ?_) (fun h => run_end ?_)
          · have h : rk order f < rk order s := of_decide_eq_true h
            rw [if_pos h]
            obtain ⟨xs, hxs⟩ := Option.isSome_iff_exists.mp (hS3.ks _ (hT.cl l f s hlf hls h))
            have hxl := hS3.le _ _ hxs
            have ed : dapp t3 (f, s) l = tput t3 (f, s) (xs ++ [l]) := by unfold dapp; rw [hxs]; rfl
            rw [ed]
            refine run_mlApp 4 (hu_of hr) rfl hold_own (ev_tup (ef_cons (ev_pub 7) (ef_one (ev_pub 8)))) (ev_pub 5) hxs (sz_le (by omega)) ?_
            exact run_end (run_last (To.le (.cons .same (.cons .same (.cons .same (.cons .same (.cons .same (.cons .same (.cons .un (.cons .same (.cons .un .nil))))))))) fun _ _ g => g))
          · have h : ¬ rk order f < rk order s := of_decide_eq_false h
            rw [if_neg h]
            exact run_last (To.le (.cons .same (.cons .same (.cons .same (.cons .same (.cons .same (.cons .same (.cons .un (.cons .same (.cons .un .nil))))))))) fun _ _ g => g)
        · rw [List.take_length]
          exact run_last (To.le (.cons .same (.cons .same (.cons .same (.cons .same (.cons .same (.cons .same (.cons .un (.cons .un (.cons .un .nil))))))))) fun _ _ g => g)
      · rw [List.take_length]
        exact run_last (To.le (.cons .same (.cons .same (.cons .same (.cons .same (.cons .same (.cons .un (.cons .un (.cons .un (.cons .un .nil))))))))) fun _ _ g => g)
    · rw [List.take_length]
      refine run_pub 4 rfl ?_
      exact run_ret (ev_pub 4) (hret _ _ rfl)
abbrev C_lower_places (Pg : Program) (Wd : World) (K : PySem.W.Frag) (mg : Str → Option Value) (Bh : Heap) : Prop := Cal Pg Wd K mg Bh "lower_places" 4 ["rows", "order"] (spF (fCons (rLst rRow) (fOne (rLst rNat))) (rTab (rLst rNat)) (fun x => IsOrder x.2.length x.2 ∧ TriOk (x.1.map fun r => (r.1, r.2.1)) x.2) (fun x y => y = trianglesL (x.1.map fun r => (r.1, r.2.1)) x.2))
set_option maxHeartbeats 2000000 in
theorem c_lower_places {Pg : Program} {Wd : World} {K : PySem.W.Frag} {mg : Str → Option Value} {Bh : Heap} (T : Hd K mg) (h_triangles : C_triangles Pg Wd K mg Bh) : C_lower_places Pg Wd K mg Bh := by
  obtain ⟨fd, F⟩ := T.f_lower_places
  have S : FnScope ["rows", "order", "row"] ["rows", "order"] (defScope s_lower_places) := ⟨rfl, rfl, rfl, by decide +kernel, rfl, by decide +kernel, by decide +kernel⟩
  refine fn_ok F S T.g_lower_places (F.bindsN fun _ _ _ _ _ _ us hl => match us, hl with | [_, _], _ => rfl) rfl (fun cdv Ar ou st0 Hh Ee hr bb De xx hpre hret hnon => ?_)
  obtain ⟨rows, order⟩ := xx
  refine ⟨_, (.cons .one), ?_⟩
  obtain ⟨ho, hT⟩ := hpre
  have ho : IsOrder order.length order := ho
  have hT : TriOk (rows.map fun r => (r.1, r.2.1)) order := hT
  have hfl := pp_len hT.nd hT.lt
  have hn := hT.n
  have hnn : order.length * order.length ≤ 200 * 200 := Nat.mul_le_mul hn hn
  rw [List.length_map] at hfl
  refine run_ret (ev_callE h_triangles (hr.mono (by decide)) (ef_cons (EvN.pub (ev_lc (lc_l (r := rPP) (s := rRow) (g := fun r => (r.1, r.2.1)) (Γt := fun r => [.pub (rLst rRow) rows, .pub (rLst rNat) order, .pub rRow r]) [("row", 2)] [2] rfl S.nd (Ev.l (ev_pub 0)) (sz_le (by omega)) (by show blkC ["rows", "order", "row"] (defScope s_lower_places) _ _ = true; decide +kernel) (fun t ht s0 H0 C cl fp0 => tg_name 2 S.nd) (fun t ht s0 H0 C cl fp0 => ev_two2 (ev_pub 2))))) (ef_one (ev_pub 1))) ⟨ho, hT⟩) (hret _ _ rfl)

/-- what fill is asked with -/
structure FillOk (N : Net) (order : List Nat) : Prop where
  n : N.1 ≤ 200
  net : NetOk N
  ord : IsOrder N.1 order
theorem FillOk.ord' {N : Net} {order : List Nat} (h : FillOk N order) : IsOrder order.length order := by rw [h.ord.len]; exact h.ord
abbrev C_fill (Pg : Program) (Wd : World) (K : PySem.W.Frag) (mg : Str → Option Value) (Bh : Heap) : Prop := Cal Pg Wd K mg Bh "fill" 5 ["net", "order"] (spF (fCons rNet (fOne (rLst rNat))) (rLst rRow) (fun x => FillOk x.1 x.2) (fun x y => y = fillL x.1 x.2))
set_option maxHeartbeats 2000000 in
theorem c_fill {Pg : Program} {Wd : World} {K : PySem.W.Frag} {mg : Str → Option Value} {Bh : Heap} (T : Hd K mg) (h_pairs : C_pairs Pg Wd K mg Bh) (h_triangles : C_triangles Pg Wd K mg Bh) (h_link_prices : C_link_prices Pg Wd K mg Bh) (h_best_way : C_best_way Pg Wd K mg Bh) (h_row_of : C_row_of Pg Wd K mg Bh) : C_fill Pg Wd K mg Bh := by
  obtain ⟨fd, F⟩ := T.f_fill
  have S : FnScope ["net", "order", "found", "lower", "links", "prices", "middles", "low", "high", "x", "y", "price", "middle", "pair"] ["net", "order"] (defScope s_fill) := ⟨rfl, rfl, rfl, by decide +kernel, rfl, by decide +kernel, by decide +kernel⟩
  refine fn_ok F S T.g_fill (F.bindsN fun _ _ _ _ _ _ us hl => match us, hl with | [_, _], _ => rfl) rfl (fun cdv Ar ou st0 Hh Ee hr bb De xx hpre hret hnon => ?_)
  obtain ⟨⟨n, ls⟩, order⟩ := xx
  refine ⟨_, (.cons .one), ?_⟩
  have hF : FillOk (n, ls) order := hpre
  have hN := hF.net
  have ho := hF.ord
  have ho' := hF.ord'
  have hT := tri_ok hN ho hF.n
  have hn : n ≤ 200 := hF.n
  have hfl := pairs_len hN ho
  have hfl : (pairsL (n, ls) order).length ≤ n * n := hfl
  have hnn : n * n ≤ 200 * 200 := Nat.mul_le_mul hn hn
  refine run_asg 2 S.nd (ev_callE h_pairs (hr.mono (by decide)) (ef_cons (ev_pub 0) (ef_one (ev_pub 1))) ⟨hN, ho⟩) ?_
  refine run_asg 3 S.nd (ev_callE h_triangles (hr.mono (by decide)) (ef_cons (ev_pub 2) (ef_one (ev_pub 1))) ⟨ho', hT⟩) ?_
  refine run_asg 4 S.nd (EvN.pub (ev_callN h_link_prices (hr.mono (by decide)) (ef_one (ev_pub 0)) hN.l)) ?_
  refine run_asgN 5 S.nd (ev_dicT (r := rOpt)) ?_
  refine run_asgN 6 S.nd (ev_dicT (r := rOpN)) ?_
  show Run _ _ _ _ [.pub rNet (n, ls), .pub (rLst rNat) order, .pub (rLst rPP) (pairsL (n, ls) order), .pub (rTab (rLst rNat)) (trianglesL (pairsL (n, ls) order) order), .pub (rTab rOpt) (linkPrices ls), .own (oTab rOpt) [], .own (oTab rOpN) [], .un, .un, .un, .un, .un, .un, .un]
  have hbt := fun i => both_take (L := linkPrices ls) (low := trianglesL (pairsL (n, ls) order) order) (found := pairsL (n, ls) order) i
  have hlb := fun f s w i hi hw => lows_before hN ho hF.n (f := f) (s := s) (w := w) (i := i) hi hw
  have hlk := fun f s (h : (f, s) ∈ pairsL (n, ls) order) => (tri_some hT).ks _ h
  have hfin : fillPM (n, ls) order = (pairsL (n, ls) order).foldl (fillStep (linkPrices ls) (trianglesL (pairsL (n, ls) order) order)) ([], []) := rfl
  have hrows : fillL (n, ls) order = (pairsL (n, ls) order).map (rowOf (fillPM (n, ls) order).1 (fillPM (n, ls) order).2) := rfl
  rw [hfin] at hrows
  rw [show ((n, ls), order).1 = (n, ls) from rfl, show ((n, ls), order).2 = order from rfl, hrows] at hret
  clear hrows hfin
  generalize pairsL (n, ls) order = found at *
  generalize trianglesL found order = low at *
  generalize linkPrices ls = L at *
  refine run_for rfl (ev_pub 2) (fun i => [.pub rNet (n, ls), .pub (rLst rNat) order, .pub (rLst rPP) found, .pub (rTab (rLst rNat)) low, .pub (rTab rOpt) L, .own (oTab rOpt) ((found.take i).foldl (fillStep L low) ([], [])).1, .own (oTab rOpN) ((found.take i).foldl (fillStep L low) ([], [])).2, .un, .un, .un, .un, .un, .un, .un]) (Le.refl _) (fun b1 hb1 i p hi => ?_) ?_
  · have hB := hbt i
    have hlen := fills_len (L := L) (low := low) (found.take i) ([], [])
    rw [List.length_take] at hlen
    simp only [List.length_nil] at hlen
    rw [take_foldl hi]
    obtain ⟨f, s⟩ := p
    have hw : ∀ w ∈ lows low (f, s), (w, f) ∈ found.take i ∧ (w, s) ∈ found.take i := fun w m => hlb f s w i hi m
    obtain ⟨places, hpl⟩ := Option.isSome_iff_exists.mp (hlk f s (List.mem_of_getElem? hi))
    have hlow : lows low (f, s) = places := by unfold lows; rw [hpl]; rfl
    have est : ∀ st : PM, fillStep L low st (f, s) = fillWay L places (fillWay L places st (f, s)) (s, f) := fun st => by unfold fillStep; rw [hpl]; rfl
    rw [est]
    rw [hlow] at hw
    generalize (found.take i).foldl (fillStep L low) ([], []) = st at hB hlen
    refine ⟨_, _, tg_tup rfl (tgs_cons (tg_name 7 S.nd) (tgs_one (tg_name 8 S.nd))), ?_⟩
    refine run_forT rfl (ev_tupL (ei_cons (ev_tup (ef_cons (ev_pub 7) (ef_one (ev_pub 8)))) (ei_cons (ev_tup (ef_cons (ev_pub 8) (ef_one (ev_pub 7)))) ef_nil1))) (fun j => [.pub rNet (n, ls), .pub (rLst rNat) order, .pub (rLst rPP) found, .pub (rTab (rLst rNat)) low, .pub (rTab rOpt) L, .own (oTab rOpt) (([(f, s), (s, f)].take j).foldl (fillWay L places) st).1, .own (oTab rOpN) (([(f, s), (s, f)].take j).foldl (fillWay L places) st).2, .pub rNat f, .pub rNat s, .un, .un, .un, .un, .un]) (Le.refl _) (fun b2 hb2 j q hj => ?_) ?_
    · have hh : (∀ w ∈ places, Has (([(f, s), (s, f)].take j).foldl (fillWay L places) st).1 q.1 w ∧ Has (([(f, s), (s, f)].take j).foldl (fillWay L places) st).1 w q.2) ∧ (([(f, s), (s, f)].take j).foldl (fillWay L places) st).1.length ≤ 100000 ∧ (([(f, s), (s, f)].take j).foldl (fillWay L places) st).2.length ≤ 100000 := by
        have hfw := fillWay_len L places st (f, s)
        match j, hj with
        | 0, hj =>
          cases hj
          exact ⟨fun w m => ⟨hB.p2 _ (hw w m).1, hB.p1 _ (hw w m).2⟩, show st.1.length ≤ _ by omega, show st.2.length ≤ _ by omega⟩
        | 1, hj =>
          cases hj
          exact ⟨fun w m => ⟨has_way.1 (.inl (hB.p2 _ (hw w m).2)), has_way.1 (.inl (hB.p1 _ (hw w m).1))⟩, show (fillWay L places st (f, s)).1.length ≤ _ by omega, show (fillWay L places st (f, s)).2.length ≤ _ by omega⟩
      rw [take_foldl hj]
      generalize ([(f, s), (s, f)].take j).foldl (fillWay L places) st = st2 at hh
      obtain ⟨hh, hh1, hh2⟩ := hh
      obtain ⟨P, M⟩ := st2
      obtain ⟨x, y⟩ := q
      refine ⟨_, _, tg_tup rfl (tgs_cons (tg_name 9 S.nd) (tgs_one (tg_name 10 S.nd))), ?_⟩
      refine run_unp (x := bestWay L P places x y) (Ev.tup (ρ := false) ffSum ?_) (tg_tup rfl (tgs_cons (tg_name 11 S.nd) (tgs_one (tg_name 12 S.nd)))) ?_
      · refine ev_callZ (x := (L, P, places, x, y)) h_best_way (hr.mono (by decide)) (ef_cons (ρ := false) (Ev.w (ev_pub 4)) (ef_cons (ev_own (o := oTab rOpt) 5) (ef_cons ?_ (ef_cons (Ev.w (ev_pub 9)) (ef_one (Ev.w (ev_pub 10))))))) hh
        exact Ev.w (ev_dT (ρ := true) (hu_of hr) (ev_pub 3) (ev_tup (ef_cons (ev_pub 7) (ef_one (ev_pub 8)))) hpl)
      refine run_setT 5 (hu_of hr) rfl (ev_pub 11) (ev_tup (ef_cons (ev_pub 9) (ef_one (ev_pub 10)))) (sz_le (by have hh1 : P.length ≤ 100000 := hh1; omega)) ?_
      refine run_setT 6 (hu_of hr) rfl (ev_pub 12) (ev_tup (ef_cons (ev_pub 9) (ef_one (ev_pub 10)))) (sz_le (by have hh2 : M.length ≤ 100000 := hh2; omega)) ?_
      exact run_last (To.le (.cons .same (.cons .same (.cons .same (.cons .same (.cons .same (.cons .same (.cons .same (.cons .same (.cons .same (.cons .un (.cons .un (.cons .un (.cons .un (.cons .un .nil)))))))))))))) fun _ _ g => g)
    · exact run_last (To.le (.cons .same (.cons .same (.cons .same (.cons .same (.cons .same (.cons .same (.cons .same (.cons .un (.cons .un (.cons .un (.cons .un (.cons .un (.cons .un (.cons .un .nil)))))))))))))) fun _ _ g => g)
  · have hB := hbt found.length
    rw [List.take_length] at hB ⊢
    generalize found.foldl (fillStep L low) ([], []) = st at hB hret
    obtain ⟨P, M⟩ := st
    refine run_ret (EvN.pub (ev_lc (lc_l (r := rRow) (s := rPP) (g := rowOf P M) (Γt := fun q => [.pub rNet (n, ls), .pub (rLst rNat) order, .pub (rLst rPP) found, .pub (rTab (rLst rNat)) low, .pub (rTab rOpt) L, .own (oTab rOpt) P, .own (oTab rOpN) M, .un, .un, .un, .un, .un, .un, .pub rPP q]) [("pair", 13)] [13] rfl S.nd (Ev.l (ev_pub 2)) (sz_le (by omega)) (by show blkC ["net", "order", "found", "lower", "links", "prices", "middles", "low", "high", "x", "y", "price", "middle", "pair"] (defScope s_fill) _ _ = true; decide +kernel) (fun t ht s0 H0 C cl fp0 => tg_name 13 S.nd) (fun t ht s0 H0 C cl fp0 => Ev.tup ffRow (ev_callZ (x := (t, P, M)) h_row_of (hr.mono (by decide)) (ef_cons (ρ := false) (Ev.w (ev_pub 13)) (ef_cons (ev_own (o := oTab rOpt) 5) (ef_one (ev_own (o := oTab rOpN) 6)))) ⟨hB.p1 t ht, hB.p2 t ht, hB.m1 t ht, hB.m2 t ht⟩))))) (hret _ _ rfl)
end Ov

/-! ## S0 -/
/-! A session: its own thing, its fields read and changed. -/
namespace Ov
open PySem PySem.Spec PyProof.Rows L2 T
/-! ### the class -/
abbrev CS (K : PySem.W.Frag) : Addr := He.ga K "Session"
section
variable {K : PySem.W.Frag} {mg : Str → Option Value}
theorem Hd.cls (T : Hd K mg) : Cls K (CS K) := He.cls_ok (T.c.fact 71 (f := .cls "Session") rfl)
theorem Hd.mkr (T : Hd K mg) : Mk K (CS K) (He.ma K (CS K) "__init__") := He.mkr_ok (T.c.fact 72 (f := .mkr "Session") rfl)
theorem Hd.noat (T : Hd K mg) (i : Nat) {f : Str} (h : fa[i]? = some (.noat "Session" f) := by rfl) : NoAttr K (CS K) f := He.noat_ok (T.c.fact i h)
theorem Hd.meth (T : Hd K mg) (i : Nat) {m : Str} (h : fa[i]? = some (.meth "Session" m) := by rfl) : Meth K (CS K) m (He.ma K (CS K) m) := He.meth_ok (T.c.fact i h)
end
/-! ### what a session is -/
structure SesW where
  p : Addr
  dx : Addr
  pl : Addr
  pp : Addr
  pm : Addr
  ph : Addr
  pk : Addr
  po : V
  pr : V
  lo : V
def sesF (W : SesW) (c : Nat) : List (Str × V) := [("_count", .int c), ("_order", W.po), ("_links", .ref W.pl), ("_pairs", W.pr), ("_lower", W.lo), ("_prices", .ref W.pp), ("_middles", .ref W.pm), ("_history", .ref W.ph), ("_looked", .ref W.pk)]
def adr (W : SesW) : List Addr := [W.p, W.pl, W.pp, W.pm, W.ph, W.pk]
structure SesAt (C : Addr) (I H : Hp) (f : List Addr) (W : SesW) (S : Ses) : Prop where
  at_ : H W.p = some (.ins C W.dx (sesF W S.count))
  ord : (rLst rNat).is I W.po S.order
  lks : (oTab rOpt).is I H (.ref W.pl) [W.pl] S.links
  prs : (rLst rPP).is I W.pr S.pairs
  low : (rTab (rLst rNat)).is I W.lo S.lower
  pri : (oTab rOpt).is I H (.ref W.pp) [W.pp] S.prices
  mid : (oTab rOpN).is I H (.ref W.pm) [W.pm] S.middles
  his : (oLst (rLst rEdit)).is I H (.ref W.ph) [W.ph] S.history
  loo : (oLst rPP).is I H (.ref W.pk) [W.pk] S.looked
  nd : (adr W).Nodup
  mem : ∀ a ∈ adr W, a ∈ f
  nt : ∀ a ∈ f, ∀ ts, H a ≠ some (.tup ts)
structure SesR (C : Addr) (I : Hp) (W : SesW) (S : Ses) : Prop where
  at_ : I W.p = some (.ins C W.dx (sesF W S.count))
  ord : (rLst rNat).is I W.po S.order
  lks : (rTab rOpt).is I (.ref W.pl) S.links
  prs : (rLst rPP).is I W.pr S.pairs
  low : (rTab (rLst rNat)).is I W.lo S.lower
  pri : (rTab rOpt).is I (.ref W.pp) S.prices
  mid : (rTab rOpN).is I (.ref W.pm) S.middles
  his : (rLst (rLst rEdit)).is I (.ref W.ph) S.history
  loo : (rLst rPP).is I (.ref W.pk) S.looked
def rSes (C : Addr) : Rep Ses where
  is := fun I v S => ∃ W, v = .ref W.p ∧ SesR C I W S
  up := fun e h => by
    obtain ⟨W, rfl, s⟩ := h
    exact ⟨W, rfl, e _ _ s.at_, (rLst rNat).up e s.ord, (rTab rOpt).up e s.lks, (rLst rPP).up e s.prs, (rTab (rLst rNat)).up e s.low, (rTab rOpt).up e s.pri, (rTab rOpN).up e s.mid, (rLst (rLst rEdit)).up e s.his, (rLst rPP).up e s.loo⟩
theorem adr_in {W : SesW} {f : List Addr} (h : ∀ a ∈ adr W, a ∈ f) : W.p ∈ f ∧ W.pl ∈ f ∧ W.pp ∈ f ∧ W.pm ∈ f ∧ W.ph ∈ f ∧ W.pk ∈ f := by
  unfold adr at h
  exact ⟨h _ (by simp), h _ (by simp), h _ (by simp), h _ (by simp), h _ (by simp), h _ (by simp)⟩
theorem SesAt.up {C : Addr} {I J H G : Hp} {f : List Addr} {W : SesW} {S : Ses} (s : SesAt C I H f W S) (e : Same I J) (g : ∀ a ∈ f, G a = H a) : SesAt C J G f W S := by
  obtain ⟨m1, m2, m3, m4, m5, m6⟩ := adr_in s.mem
  have one : ∀ {q : Addr}, q ∈ f → ∀ a ∈ [q], G a = H a := fun m a ma => by
    simp only [List.mem_singleton] at ma
    rw [ma]; exact g _ m
  exact ⟨by rw [g _ m1]; exact s.at_, (rLst rNat).up e s.ord, (oTab rOpt).up e (one m2) s.lks, (rLst rPP).up e s.prs, (rTab (rLst rNat)).up e s.low, (oTab rOpt).up e (one m3) s.pri, (oTab rOpN).up e (one m4) s.mid, (oLst (rLst rEdit)).up e (one m5) s.his, (oLst rPP).up e (one m6) s.loo, s.nd, s.mem, fun a m ts => by rw [g a m]; exact s.nt a m ts⟩
theorem SesAt.pub {C : Addr} {I J H : Hp} {f : List Addr} {W : SesW} {S : Ses} (s : SesAt C I H f W S) (e : Same I J) (g : ∀ a ∈ f, J a = H a) : SesR C J W S := by
  obtain ⟨m1, m2, m3, m4, m5, m6⟩ := adr_in s.mem
  have one : ∀ {q : Addr}, q ∈ f → ∀ a ∈ [q], J a = H a := fun m a ma => by
    simp only [List.mem_singleton] at ma
    rw [ma]; exact g _ m
  exact ⟨by rw [g _ m1]; exact s.at_, (rLst rNat).up e s.ord, (oTab rOpt).pub s.lks e (one m2), (rLst rPP).up e s.prs, (rTab (rLst rNat)).up e s.low, (oTab rOpt).pub s.pri e (one m3), (oTab rOpN).pub s.mid e (one m4), (oLst (rLst rEdit)).pub s.his e (one m5), (oLst rPP).pub s.loo e (one m6)⟩
def oSes (C : Addr) : Own Ses where
  is := fun I H v f S => ∃ W, v = .ref W.p ∧ SesAt C I H f W S
  rep := rSes C
  up := fun e g h => by
    obtain ⟨W, rfl, s⟩ := h
    exact ⟨W, rfl, s.up e g⟩
  pub := fun h e g => by
    obtain ⟨W, rfl, s⟩ := h
    exact ⟨W, rfl, s.pub e g⟩
  nt := fun h a m ts => by
    obtain ⟨W, rfl, s⟩ := h
    exact s.nt a m ts
/-- one of its own things changed in place -/
theorem SesAt.chg {C : Addr} {I H : Hp} {f : List Addr} {W : SesW} {S S' : Ses} {q : Addr} {u : HO} (s : SesAt C I H f W S) (hu : ∀ ts, u ≠ .tup ts)
    (at_ : upd H q u W.p = some (.ins C W.dx (sesF W S'.count))) (ord : S'.order = S.order) (prs : S'.pairs = S.pairs) (low : S'.lower = S.lower)
    (lks : (oTab rOpt).is I (upd H q u) (.ref W.pl) [W.pl] S'.links) (pri : (oTab rOpt).is I (upd H q u) (.ref W.pp) [W.pp] S'.prices) (mid : (oTab rOpN).is I (upd H q u) (.ref W.pm) [W.pm] S'.middles) (his : (oLst (rLst rEdit)).is I (upd H q u) (.ref W.ph) [W.ph] S'.history) (loo : (oLst rPP).is I (upd H q u) (.ref W.pk) [W.pk] S'.looked) : SesAt C I (upd H q u) f W S' :=
  ⟨at_, by rw [ord]; exact s.ord, lks, by rw [prs]; exact s.prs, by rw [low]; exact s.low, pri, mid, his, loo, s.nd, s.mem, fun a m ts z => by
    by_cases e : a = q
    · rw [e, upd_same] at z; exact hu ts (Option.some.inj z)
    · rw [upd_ne e] at z; exact s.nt a m ts z⟩
theorem own_ne {α : Type} {o : Own α} {I H : Hp} {v : V} {a q : Addr} {x : α} {u : HO} (h : o.is I H v [a] x) (n : a ≠ q) : o.is I (upd H q u) v [a] x := o.up (Same.refl _) (fun b m => by
  simp only [List.mem_singleton] at m
  rw [m, upd_ne n]) h
theorem tab_put {α : Type} {r : Rep α} {I H : Hp} {p : Addr} {kvs : List (List Key × V)} {t : Tab α} {key : PP} {w : V} {x : α} (h : H p = some (.dT kvs)) (e : Ents kP (r.is I) kvs t) (hw : r.is I w x) : (oTab r).is I (upd H p (.dT (putK kvs (kP key) w))) (.ref p) [p] (tput t key x) := ⟨p, _, rfl, rfl, upd_same, Ents.put kP_inj e key hw⟩
/-- ne: the six are other ones -/
theorem adr_ne {W : SesW} (h : (adr W).Nodup) : W.p ≠ W.pl ∧ W.p ≠ W.pp ∧ W.p ≠ W.pm ∧ W.p ≠ W.ph ∧ W.p ≠ W.pk ∧ W.pl ≠ W.pp ∧ W.pl ≠ W.pm ∧ W.pl ≠ W.ph ∧ W.pl ≠ W.pk ∧ W.pp ≠ W.pm ∧ W.pp ≠ W.ph ∧ W.pp ≠ W.pk ∧ W.pm ≠ W.ph ∧ W.pm ≠ W.pk ∧ W.ph ≠ W.pk := by
  unfold adr at h
  simp only [List.nodup_cons, List.mem_cons, List.not_mem_nil, or_false, not_or] at h
  obtain ⟨⟨a1, a2, a3, a4, a5⟩, ⟨b1, b2, b3, b4⟩, ⟨c1, c2, c3⟩, ⟨d1, d2⟩, e1, _⟩ := h
  exact ⟨a1, a2, a3, a4, a5, b1, b2, b3, b4, c1, c2, c3, d1, d2, e1⟩
theorem SesAt.setLinks {C : Addr} {I H : Hp} {f : List Addr} {W : SesW} {S : Ses} {kvs : List (List Key × V)} {key : PP} {w : V} {x : Option Int} (s : SesAt C I H f W S) (h : H W.pl = some (.dT kvs)) (e : Ents kP (rOpt.is I) kvs S.links) (hw : rOpt.is I w x) : SesAt C I (upd H W.pl (.dT (putK kvs (kP key) w))) f W { S with links := tput S.links key x } := by
  obtain ⟨a1, a2, a3, a4, a5, b1, b2, b3, b4, c1, c2, c3, d1, d2, e1⟩ := adr_ne s.nd
  exact s.chg (fun _ z => nomatch z) (by rw [upd_ne a1]; exact s.at_) rfl rfl rfl (tab_put h e hw) (own_ne s.pri b1.symm) (own_ne s.mid b2.symm) (own_ne s.his b3.symm) (own_ne s.loo b4.symm)
theorem SesAt.setPrices {C : Addr} {I H : Hp} {f : List Addr} {W : SesW} {S : Ses} {kvs : List (List Key × V)} {key : PP} {w : V} {x : Option Int} (s : SesAt C I H f W S) (h : H W.pp = some (.dT kvs)) (e : Ents kP (rOpt.is I) kvs S.prices) (hw : rOpt.is I w x) : SesAt C I (upd H W.pp (.dT (putK kvs (kP key) w))) f W { S with prices := tput S.prices key x } := by
  obtain ⟨a1, a2, a3, a4, a5, b1, b2, b3, b4, c1, c2, c3, d1, d2, e1⟩ := adr_ne s.nd
  exact s.chg (fun _ z => nomatch z) (by rw [upd_ne a2]; exact s.at_) rfl rfl rfl (own_ne s.lks b1) (tab_put h e hw) (own_ne s.mid c1.symm) (own_ne s.his c2.symm) (own_ne s.loo c3.symm)
theorem SesAt.setMiddles {C : Addr} {I H : Hp} {f : List Addr} {W : SesW} {S : Ses} {kvs : List (List Key × V)} {key : PP} {w : V} {x : Option Nat} (s : SesAt C I H f W S) (h : H W.pm = some (.dT kvs)) (e : Ents kP (rOpN.is I) kvs S.middles) (hw : rOpN.is I w x) : SesAt C I (upd H W.pm (.dT (putK kvs (kP key) w))) f W { S with middles := tput S.middles key x } := by
  obtain ⟨a1, a2, a3, a4, a5, b1, b2, b3, b4, c1, c2, c3, d1, d2, e1⟩ := adr_ne s.nd
  exact s.chg (fun _ z => nomatch z) (by rw [upd_ne a3]; exact s.at_) rfl rfl rfl (own_ne s.lks b2) (own_ne s.pri c1) (tab_put h e hw) (own_ne s.his d1.symm) (own_ne s.loo d2.symm)
theorem SesAt.setHistory {C : Addr} {I H : Hp} {f : List Addr} {W : SesW} {S : Ses} {vs : List V} {h' : List (List Edit)} (s : SesAt C I H f W S) (hw : Paired ((rLst rEdit).is I) vs h') : SesAt C I (upd H W.ph (.lst vs)) f W { S with history := h' } := by
  obtain ⟨a1, a2, a3, a4, a5, b1, b2, b3, b4, c1, c2, c3, d1, d2, e1⟩ := adr_ne s.nd
  exact s.chg (fun _ z => nomatch z) (by rw [upd_ne a4]; exact s.at_) rfl rfl rfl (own_ne s.lks b3) (own_ne s.pri c2) (own_ne s.mid d1) ⟨_, _, rfl, rfl, upd_same, hw⟩ (own_ne s.loo e1.symm)
theorem SesAt.setLooked {C : Addr} {I H : Hp} {f : List Addr} {W : SesW} {S : Ses} {vs : List V} {l' : List PP} (s : SesAt C I H f W S) (hw : Paired (rPP.is I) vs l') : SesAt C I (upd H W.pk (.lst vs)) f W { S with looked := l' } := by
  obtain ⟨a1, a2, a3, a4, a5, b1, b2, b3, b4, c1, c2, c3, d1, d2, e1⟩ := adr_ne s.nd
  exact s.chg (fun _ z => nomatch z) (by rw [upd_ne a5]; exact s.at_) rfl rfl rfl (own_ne s.lks b4) (own_ne s.pri c3) (own_ne s.mid d2) (own_ne s.his e1) ⟨_, _, rfl, rfl, upd_same, hw⟩
end Ov

/-! ## S1 -/
/-! A session in the typed layer: reading fields, changing them, calling methods. -/
namespace Ov
open PySem PySem.Spec PyProof.Rows L2 T
/-- a session whose parts stay where they are -/
def oSesW (C : Addr) (W : SesW) : Own Ses where
  is := fun I H v f S => v = .ref W.p ∧ SesAt C I H f W S
  rep := rSes C
  up := fun e g h => ⟨h.1, h.2.up e g⟩
  pub := fun h e g => ⟨W, h.1, h.2.pub e g⟩
  nt := fun h a m ts => h.2.nt a m ts
structure SesO (C : Addr) (o : Own Ses) : Prop where
  get : ∀ {I H : Hp} {v : V} {f : List Addr} {S : Ses}, o.is I H v f S → ∃ W, v = .ref W.p ∧ SesAt C I H f W S ∧ ∀ {I' H' : Hp} {f' : List Addr} {S' : Ses}, SesAt C I' H' f' W S' → o.is I' H' v f' S'
  rep : o.rep = rSes C
theorem sesO (C : Addr) : SesO C (oSes C) where
  get := fun h => by
    obtain ⟨W, e, s⟩ := h
    exact ⟨W, e, s, fun s' => ⟨W, e, s'⟩⟩
  rep := rfl
theorem sesOW (C : Addr) (W : SesW) : SesO C (oSesW C W) where
  get := fun h => ⟨W, h.1, h.2, fun s' => ⟨h.1, s'⟩⟩
  rep := rfl
/-- a method that may be called -/
structure MCal (P : Program) (w : World) (K : PySem.W.Frag) (mg : Str → Option Value) (base : Heap) (C : Addr) (m : Str) (k : Nat) (ps : List Str) (sp : Sp) : Prop where
  ex : ∃ (f : Addr) (fd : FuncData), FnOk P w K mg base CX0 k f fd ps sp ∧ Meth K C m f ∧ Cls K C ∧ Binds K fd ps []
theorem Fn1.mcal {P : Program} {w : World} {K : PySem.W.Frag} {mg : Str → Option Value} {base : Heap} {C f : Addr} {m : Str} {k : Nat} {ps : List Str} {sp : Sp} (h : T.Fn1 P w K mg base f k ps sp) (c : Cls K C) (hm : Meth K C m f) : MCal P w K mg base C m k ps sp := by
  obtain ⟨fd, F, kp, b⟩ := h.ex
  exact ⟨f, fd, F, hm, c, b⟩
section
variable {α β γ δ : Type} {ρ : Bool} {b : Bs} {X : Cx} {Γ Γ' : List B} {e e0 e1 e2 : Expr} {es : List Expr} {r : Rep α} {x : α} {y : β} {pos apos : Pos} {D : Ends} {rest : List Stmt} {C : Addr} {S : Ses} {m nm : Str} {k0 : Nat} {ps : List Str}
/-! ### fields -/
structure FldR (nm : Str) (r : Rep α) (g : Ses → α) : Prop where
  get : ∀ {C : Addr} {I : Hp} {W : SesW} {S : Ses}, SesR C I W S → ∃ v, (sesF W S.count).lookup nm = some v ∧ r.is I v (g S)
theorem fr_count : FldR "_count" rNat Ses.count := ⟨fun s => ⟨_, rfl, rfl⟩⟩
theorem fr_order : FldR "_order" (rLst rNat) Ses.order := ⟨fun s => ⟨_, rfl, s.ord⟩⟩
theorem fr_links : FldR "_links" (rTab rOpt) Ses.links := ⟨fun s => ⟨_, rfl, s.lks⟩⟩
theorem fr_pairs : FldR "_pairs" (rLst rPP) Ses.pairs := ⟨fun s => ⟨_, rfl, s.prs⟩⟩
theorem fr_lower : FldR "_lower" (rTab (rLst rNat)) Ses.lower := ⟨fun s => ⟨_, rfl, s.low⟩⟩
theorem fr_prices : FldR "_prices" (rTab rOpt) Ses.prices := ⟨fun s => ⟨_, rfl, s.pri⟩⟩
theorem fr_middles : FldR "_middles" (rTab rOpN) Ses.middles := ⟨fun s => ⟨_, rfl, s.mid⟩⟩
theorem fr_history : FldR "_history" (rLst (rLst rEdit)) Ses.history := ⟨fun s => ⟨_, rfl, s.his⟩⟩
theorem fr_looked : FldR "_looked" (rLst rPP) Ses.looked := ⟨fun s => ⟨_, rfl, s.loo⟩⟩
theorem ev_fld {g : Ses → α} (fr : FldR nm r g) (c : Cls X.K C) (n : NoAttr X.K C nm) (h : Ev ρ X Γ e (rSes C) S) (hb : attributeBase e nm X.env (eval e X.env) = eval e X.env := by rfl) : Ev ρ X Γ (.Attribute e nm pos) r (g S) := fun b σ I H fp s k Q q => PE.w (pe_fld pe_w hb) (h b σ I H fp s k _ fun v I1 H1 E z => by
  obtain ⟨W, rfl, s1⟩ := z
  obtain ⟨v, hl, hv⟩ := fr.get s1
  exact ⟨W.p, C, W.dx, _, v, rfl, vw_in E.ih _ _ s1.at_, c, n, hl, q v I1 H1 E hv⟩)
/-- fields that are public -/
structure FldP (nm : Str) (r : Rep α) (g : Ses → α) : Prop where
  get : ∀ {C : Addr} {I H : Hp} {f : List Addr} {W : SesW} {S : Ses}, SesAt C I H f W S → ∃ v, (sesF W S.count).lookup nm = some v ∧ r.is I v (g S)
theorem fp_count : FldP "_count" rNat Ses.count := ⟨fun s => ⟨_, rfl, rfl⟩⟩
theorem fp_order : FldP "_order" (rLst rNat) Ses.order := ⟨fun s => ⟨_, rfl, s.ord⟩⟩
theorem fp_pairs : FldP "_pairs" (rLst rPP) Ses.pairs := ⟨fun s => ⟨_, rfl, s.prs⟩⟩
theorem fp_lower : FldP "_lower" (rTab (rLst rNat)) Ses.lower := ⟨fun s => ⟨_, rfl, s.low⟩⟩
theorem ev_fldP {g : Ses → α} {sb : B} {o : Own Ses} {n : Str} {p : Pos} (i : Nat) (fr : FldP nm r g) (so : SesO C o) (c : Cls X.K C) (na : NoAttr X.K C nm) (hg : Γ[i]? = some sb) (pk : Peek sb o S) (hN : X.N[i]? = some n := by rfl) (hv : Vis X.env.scope n := by first | exact Or.inl rfl | exact Or.inr (Or.inl rfl) | exact Or.inr (Or.inr rfl))
    (hd : (n == ("__debug__" : Str)) = false := by decide) (hcd : (n == ("__classdict__" : Str)) = false := by decide) (hb : attributeBase (.Name n p) nm X.env (eval (.Name n p) X.env) = eval (.Name n p) X.env := by rfl) : Ev true X Γ (.Attribute (.Name n p) nm pos) r (g S) := fun b σ I H fp s k Q q => by
  obtain ⟨v, e1, e2⟩ := pk.get (k.at_ i sb hg)
  obtain ⟨W, rfl, s1, _⟩ := so.get e2
  obtain ⟨w, hl, hw⟩ := fr.get s1
  exact PE.w (pe_fld (pv i hN hv hd hcd) hb) ⟨_, e1, W.p, C, W.dx, _, w, rfl, s1.at_, c, na, hl, q w I H (Ext.refl s) hw⟩
/-- a list of it, its items public -/
theorem ev_fldL {g : Ses → List α} {sb : B} {o : Own Ses} {n : Str} {p : Pos} (i : Nat) (adr : SesW → Addr) (hl : ∀ W c, (sesF W c).lookup nm = some (.ref (adr W))) (hs : ∀ {C : Addr} {I H : Hp} {f : List Addr} {W : SesW} {S : Ses}, SesAt C I H f W S → (oLst r).is I H (.ref (adr W)) [adr W] (g S)) (so : SesO C o) (c : Cls X.K C) (na : NoAttr X.K C nm) (hg : Γ[i]? = some sb) (pk : Peek sb o S) (hN : X.N[i]? = some n := by rfl) (hv : Vis X.env.scope n := by first | exact Or.inl rfl | exact Or.inr (Or.inl rfl) | exact Or.inr (Or.inr rfl))
    (hd : (n == ("__debug__" : Str)) = false := by decide) (hcd : (n == ("__classdict__" : Str)) = false := by decide) (hb : attributeBase (.Name n p) nm X.env (eval (.Name n p) X.env) = eval (.Name n p) X.env := by rfl) : EvL X Γ (.Attribute (.Name n p) nm pos) r (g S) := fun b σ I H fp s k Q q => by
  obtain ⟨v, e1, e2⟩ := pk.get (k.at_ i sb hg)
  obtain ⟨W, rfl, s1, _⟩ := so.get e2
  obtain ⟨p2, vs, e3, _, a1, p1⟩ := hs s1
  cases e3
  exact PE.w (pe_fld (pv i hN hv hd hcd) hb) ⟨_, e1, W.p, C, W.dx, _, _, rfl, s1.at_, c, na, hl W _, q _ vs I H (Ext.refl s) a1 p1⟩
/-! ### changes of a field's dict or list -/
structure FldT (nm : Str) (r : Rep α) (get : Ses → Tab α) (set : Ses → Tab α → Ses) (adr : SesW → Addr) : Prop where
  lk : ∀ W c, (sesF W c).lookup nm = some (.ref (adr W))
  at_ : ∀ {C : Addr} {I H : Hp} {f : List Addr} {W : SesW} {S : Ses}, SesAt C I H f W S → (oTab r).is I H (.ref (adr W)) [adr W] (get S) ∧ adr W ∈ f
  st : ∀ {C : Addr} {I H : Hp} {f : List Addr} {W : SesW} {S : Ses} {kvs : List (List Key × V)} {key : PP} {w : V} {x : α}, SesAt C I H f W S → H (adr W) = some (.dT kvs) → Ents kP (r.is I) kvs (get S) → r.is I w x → SesAt C I (upd H (adr W) (.dT (putK kvs (kP key) w))) f W (set S (tput (get S) key x))
theorem ft_links : FldT "_links" rOpt Ses.links (fun S t => { S with links := t }) SesW.pl := ⟨fun _ _ => rfl, fun s => ⟨s.lks, (adr_in s.mem).2.1⟩, fun s h e w => s.setLinks h e w⟩
theorem ft_prices : FldT "_prices" rOpt Ses.prices (fun S t => { S with prices := t }) SesW.pp := ⟨fun _ _ => rfl, fun s => ⟨s.pri, (adr_in s.mem).2.2.1⟩, fun s h e w => s.setPrices h e w⟩
theorem ft_middles : FldT "_middles" rOpN Ses.middles (fun S t => { S with middles := t }) SesW.pm := ⟨fun _ _ => rfl, fun s => ⟨s.mid, (adr_in s.mem).2.2.2.1⟩, fun s h e w => s.setMiddles h e w⟩
/-- self.f[key] = x -/
theorem run_fldSet {get : Ses → Tab α} {set : Ses → Tab α → Ses} {adr : SesW → Addr} {sb : B} {o : Own Ses} {mk : Ses → B} {key : PP} {n : Str} {p p1 p2 : Pos} (i : Nat) (ft : FldT nm r get set adr) (so : SesO C o) (c : Cls X.K C) (na : NoAttr X.K C nm) (hu : X.A.units + 1 < cLine) (hg : Γ[i]? = some sb) (hh : Hold sb o S mk) (h : Ev true X Γ e r x) (h2 : Ev true X Γ e2 rPP key) (hz : (get S).length < sizeLine)
    (kt : Run b X rest D (Γ.set i (mk (set S (tput (get S) key x))))) (hN : X.N[i]? = some n := by rfl) (hv : Vis X.env.scope n := by first | exact Or.inl rfl | exact Or.inr (Or.inl rfl) | exact Or.inr (Or.inr rfl))
    (hd : (n == ("__debug__" : Str)) = false := by decide) (hcd : (n == ("__classdict__" : Str)) = false := by decide) (hb : attributeBase (.Name n p) nm X.env (eval (.Name n p) X.env) = eval (.Name n p) X.env := by rfl) (hs : swapsWith e (some (.Subscript (.Attribute (.Name n p) nm p1) e2 p2)) pos.line X.env = pure false := by rfl) :
    Run b X (.Assign [.Subscript (.Attribute (.Name n p) nm p1) e2 p2] e pos :: rest) D Γ :=
  run_of fun σ I H fp o1 cn => by
    obtain ⟨v, e1, z1, hl⟩ := hh.get (cn.at_ i sb hg)
    obtain ⟨W, rfl, s1, mk1⟩ := so.get z1
    refine PS.w (ps_dput hu (pe_fld (pv i hN hv hd hcd) hb) pe_w pe_w hs) (h b σ I H fp o1.ih cn _ fun w I' H' E z => ⟨_, e1, W.p, C, W.dx, _, _, rfl, (E.hh _ _ s1.at_), c, na, ft.lk W _, h2 b σ I' H' fp E.ih (cn.up E) _ fun w2 I2 H2 E2 z2 => ?_⟩)
    obtain ⟨bb, rfl, a2⟩ := rPP_of z2 (vw_in E2.ih)
    have E3 := E.trans E2
    have c2 := cn.up E3
    have s2 := s1.up E3.ii (fun a m => ext_at (cn.prv i a m).2 E3)
    obtain ⟨⟨q, kvs, e4, _, a1, p1⟩, hm⟩ := ft.at_ s2
    cases e4
    refine ⟨adr W, _, rfl, DPut.t a1 a2 (by rw [p1.length]; exact hz), ?_⟩
    exact kt _ _ (hh.put hg (o1.up E3) c2 (Chg.upd hm fun a ma => (c2.prv i a ma).2) e1 (mk1 (ft.st s2 a1 p1 (r.up E2.ii z))))
structure FldL (nm : Str) (r : Rep α) (get : Ses → List α) (set : Ses → List α → Ses) (adr : SesW → Addr) (cad : SesW → Addr → SesW) : Prop where
  lk : ∀ W c, (sesF W c).lookup nm = some (.ref (adr W))
  at_ : ∀ {C : Addr} {I H : Hp} {f : List Addr} {W : SesW} {S : Ses}, SesAt C I H f W S → (oLst r).is I H (.ref (adr W)) [adr W] (get S) ∧ adr W ∈ f
  st : ∀ {C : Addr} {I H : Hp} {f : List Addr} {W : SesW} {S : Ses} {vs : List V} {l : List α}, SesAt C I H f W S → Paired (r.is I) vs l → SesAt C I (upd H (adr W) (.lst vs)) f W (set S l)
  pp : ∀ W q, (cad W q).p = W.p
  pu : ∀ {C : Addr} {I H : Hp} {f : List Addr} {W : SesW} {S : Ses} {vs : List V} {l : List α} {q : Addr}, SesAt C I H f W S → H q = some (.lst vs) → Paired (r.is I) vs l → q ∉ f → SesAt C I (upd H W.p (.ins C W.dx (putF nm (.ref q) (sesF W S.count)))) (q :: f) (cad W q) (set S l)
theorem ses_new {C : Addr} {I H : Hp} {f : List Addr} {W W' : SesW} {S S' : Ses} {vs : List V} {q : Addr} {fs : List (Str × V)} (s : SesAt C I H f W S) (hq : H q = some (.lst vs)) (n : q ∉ f) (hp : W'.p = W.p) (hdx : W'.dx = W.dx) (hf : fs = sesF W' S'.count) (ho : W'.po = W.po) (hr : W'.pr = W.pr) (hlo : W'.lo = W.lo) (ord : S'.order = S.order) (prs : S'.pairs = S.pairs) (low : S'.lower = S.lower) (lks : S'.links = S.links) (pri : S'.prices = S.prices) (mid : S'.middles = S.middles) (hpl : W'.pl = W.pl) (hpp : W'.pp = W.pp) (hpm : W'.pm = W.pm)
    (hh : (W'.ph = W.ph ∧ S'.history = S.history) ∨ (W'.ph = q ∧ Paired ((rLst rEdit).is I) vs S'.history)) (hk : (W'.pk = W.pk ∧ S'.looked = S.looked) ∨ (W'.pk = q ∧ Paired (rPP.is I) vs S'.looked)) (nd : (adr W').Nodup) (mem : ∀ a ∈ adr W', a ∈ q :: f) : SesAt C I (upd H W.p (.ins C W.dx fs)) (q :: f) W' S' := by
  obtain ⟨a1, a2, a3, a4, a5, b1, b2, b3, b4, c1, c2, c3, d1, d2, e1⟩ := adr_ne s.nd
  have hqp : q ≠ W.p := fun z => n (by rw [z]; exact (adr_in s.mem).1)
  refine ⟨by rw [hp, upd_same, hdx, hf], by rw [ho, ord]; exact s.ord, by rw [hpl, lks]; exact own_ne s.lks a1.symm, by rw [hr, prs]; exact s.prs, by rw [hlo, low]; exact s.low, by rw [hpp, pri]; exact own_ne s.pri a2.symm, by rw [hpm, mid]; exact own_ne s.mid a3.symm, ?_, ?_, nd, mem, fun a m ts z => ?_⟩
  · rcases hh with ⟨z1, z2⟩ | ⟨z1, z2⟩
    · rw [z1, z2]; exact own_ne s.his a4.symm
    · rw [z1]; exact ⟨q, vs, rfl, rfl, by rw [upd_ne hqp]; exact hq, z2⟩
  · rcases hk with ⟨z1, z2⟩ | ⟨z1, z2⟩
    · rw [z1, z2]; exact own_ne s.loo a5.symm
    · rw [z1]; exact ⟨q, vs, rfl, rfl, by rw [upd_ne hqp]; exact hq, z2⟩
  · by_cases e : a = W.p
    · rw [e, upd_same] at z; cases z
    · rw [upd_ne e] at z
      rcases List.mem_cons.mp m with m | m
      · rw [m, hq] at z; cases z
      · exact s.nt a m ts z
theorem fl_history : FldL "_history" (rLst rEdit) Ses.history (fun S t => { S with history := t }) SesW.ph (fun W q => { W with ph := q }) where
  lk := fun _ _ => rfl
  at_ := fun s => ⟨s.his, (adr_in s.mem).2.2.2.2.1⟩
  st := fun s w => s.setHistory w
  pp := fun _ _ => rfl
  pu := fun {C I H f W S vs l q} s hq w n => by
    obtain ⟨m1, m2, m3, m4, m5, m6⟩ := adr_in s.mem
    obtain ⟨a1, a2, a3, a4, a5, b1, b2, b3, b4, c1, c2, c3, d1, d2, e1⟩ := adr_ne s.nd
    have ne : ∀ {a : Addr}, a ∈ f → a ≠ q := fun m z => n (by rw [← z]; exact m)
    refine ses_new s hq n rfl rfl rfl rfl rfl rfl rfl rfl rfl rfl rfl rfl rfl rfl rfl (.inr ⟨rfl, w⟩) (.inl ⟨rfl, rfl⟩) ?_ ?_
    · unfold adr
      simp only [List.nodup_cons, List.mem_cons, List.not_mem_nil, or_false, not_or]
      exact ⟨⟨a1, a2, a3, ne m1, a5⟩, ⟨b1, b2, ne m2, b4⟩, ⟨c1, ne m3, c3⟩, ⟨ne m4, d2⟩, (ne m6).symm, id, List.nodup_nil⟩
    · intro a ha
      unfold adr at ha
      simp only [List.mem_cons, List.not_mem_nil, or_false] at ha
      rcases ha with rfl | rfl | rfl | rfl | rfl | rfl <;> simp_all
theorem fl_looked : FldL "_looked" rPP Ses.looked (fun S t => { S with looked := t }) SesW.pk (fun W q => { W with pk := q }) where
  lk := fun _ _ => rfl
  at_ := fun s => ⟨s.loo, (adr_in s.mem).2.2.2.2.2⟩
  st := fun s w => s.setLooked w
  pp := fun _ _ => rfl
  pu := fun {C I H f W S vs l q} s hq w n => by
    obtain ⟨m1, m2, m3, m4, m5, m6⟩ := adr_in s.mem
    obtain ⟨a1, a2, a3, a4, a5, b1, b2, b3, b4, c1, c2, c3, d1, d2, e1⟩ := adr_ne s.nd
    have ne : ∀ {a : Addr}, a ∈ f → a ≠ q := fun m z => n (by rw [← z]; exact m)
    refine ses_new s hq n rfl rfl rfl rfl rfl rfl rfl rfl rfl rfl rfl rfl rfl rfl rfl (.inl ⟨rfl, rfl⟩) (.inr ⟨rfl, w⟩) ?_ ?_
    · unfold adr
      simp only [List.nodup_cons, List.mem_cons, List.not_mem_nil, or_false, not_or]
      exact ⟨⟨a1, a2, a3, a4, ne m1⟩, ⟨b1, b2, b3, ne m2⟩, ⟨c1, c2, ne m3⟩, ⟨d1, ne m4⟩, ne m5, id, List.nodup_nil⟩
    · intro a ha
      unfold adr at ha
      simp only [List.mem_cons, List.not_mem_nil, or_false] at ha
      rcases ha with rfl | rfl | rfl | rfl | rfl | rfl <;> simp_all
/-- self.f.append(x) -/
theorem run_fldApp {get : Ses → List α} {set : Ses → List α → Ses} {adr : SesW → Addr} {cad : SesW → Addr → SesW} {sb : B} {o : Own Ses} {mk : Ses → B} {n : Str} {p p1 p2 p3 : Pos} (i : Nat) (ft : FldL nm r get set adr cad) (so : SesO C o) (c : Cls X.K C) (na : NoAttr X.K C nm) (hg : Γ[i]? = some sb) (hh : Hold sb o S mk) (h : Ev true X Γ e r x) (hz : (get S).length < sizeLine)
    (kt : Run b X rest D (Γ.set i (mk (set S (get S ++ [x]))))) (hN : X.N[i]? = some n := by rfl) (hv : Vis X.env.scope n := by first | exact Or.inl rfl | exact Or.inr (Or.inl rfl) | exact Or.inr (Or.inr rfl))
    (hd : (n == ("__debug__" : Str)) = false := by decide) (hcd : (n == ("__classdict__" : Str)) = false := by decide) (hb : attributeBase (.Name n p) nm X.env (eval (.Name n p) X.env) = eval (.Name n p) X.env := by rfl)
    (hp : ∀ te : TE, PE X (.Attribute (.Name n p) nm p1) te → PS X (.Expr (.Call (.Attribute (.Attribute (.Name n p) nm p1) "append" p2) [e] [] p3) pos) (tDrop (tBM X.K "list" rAppend te (tCons (wE X e) tNil))) := by exact fun _ h => ps_expr (pe_bm PySem.F.plainAttrs_list PySem.F.slot_list_append PySem.F.type_list_append mt_append h (pa_cons pe_w pa_nil))) :
    Run b X (.Expr (.Call (.Attribute (.Attribute (.Name n p) nm p1) "append" p2) [e] [] p3) pos :: rest) D Γ :=
  run_of fun σ I H fp o1 cn => by
    obtain ⟨v, e1, z1, hl⟩ := hh.get (cn.at_ i sb hg)
    obtain ⟨W, rfl, s1, mk1⟩ := so.get z1
    obtain ⟨⟨q, vs, e4, _, a1, p1⟩, hm⟩ := ft.at_ s1
    cases e4
    refine PS.w (hp _ (pe_fld (pv i hN hv hd hcd) hb)) ⟨_, e1, W.p, C, W.dx, _, _, rfl, s1.at_, c, na, ft.lk W _, .inl ⟨rfl, _, SqL.of a1⟩, h b σ I H fp o1.ih cn _ fun w I' H' E z => ?_⟩
    have c2 := cn.up E
    have s2 := s1.up E.ii (fun a m => ext_at (cn.prv i a m).2 E)
    refine ⟨adr W, vs, w, rfl, rfl, E.hh _ _ a1, by rw [Paired.length p1]; exact hz, ?_⟩
    exact kt _ _ (hh.put hg (o1.up E) c2 (Chg.upd hm fun a ma => (c2.prv i a ma).2) e1 (mk1 (ft.st s2 (Paired.snoc (Paired.mapP p1 fun _ _ z => r.up E.ii z) z))))
/-- self.f = [..], a new list -/
theorem run_fldNew {get : Ses → List α} {set : Ses → List α → Ses} {adr : SesW → Addr} {cad : SesW → Addr → SesW} {sb : B} {mk : Ses → B} {n : Str} {p p1 : Pos} {l : List α} (i : Nat) (ft : FldL nm r get set adr cad) (c : Cls X.K C) (na : NoAttr X.K C nm) (hg : Γ[i]? = some sb) (hh : Hold sb (oSes C) S mk) (h : EvN X Γ e (oLst r) l)
    (kt : Run b X rest D (Γ.set i (mk (set S l)))) (hN : X.N[i]? = some n := by rfl) (hv : Vis X.env.scope n := by first | exact Or.inl rfl | exact Or.inr (Or.inl rfl) | exact Or.inr (Or.inr rfl))
    (hd : (n == ("__debug__" : Str)) = false := by decide) (hcd : (n == ("__classdict__" : Str)) = false := by decide) (hs : swapsWith e (some (.Attribute (.Name n p) nm p1)) pos.line X.env = pure false := by rfl) :
    Run b X (.Assign [.Attribute (.Name n p) nm p1] e pos :: rest) D Γ :=
  run_of fun σ I H fp o1 cn => by
    obtain ⟨v, e1, ⟨W, rfl, s1⟩, hl⟩ := hh.get (cn.at_ i sb hg)
    refine PS.w (ps_fld (pv i hN hv hd hcd) pe_w hs) (h b σ I H fp o1.ih cn _ fun w I' H' f E z hf => ?_)
    obtain ⟨q, vs, rfl, rfl, a1, p1⟩ := z
    have c2 := cn.up E
    have s2 := s1.up E.ii (fun a m => ext_at (cn.prv i a m).2 E)
    have hq := hf q (by simp)
    have hqf : q ∉ fp i := fun m => (cn.prv i q m).2 hq.1
    refine ⟨_, e1, W.p, C, W.dx, _, rfl, s2.at_, c, na, by show 9 < 1000; decide, ?_⟩
    have hqp : q ≠ W.p := fun z => hqf (by rw [z]; exact (adr_in s1.mem).1)
    have hpf := (adr_in s1.mem).1
    have ch : Chg H (upd H' W.p (.ins C W.dx (putF nm (.ref q) (sesF W S.count)))) (fp i) (q :: fp i) := ⟨fun a m n => by
      rw [upd_ne fun z => m (by rw [z]; exact hpf)]
      exact ext_at n E, fun a n => by
      by_cases z : a = W.p
      · rw [z, upd_same]; exact fun z => nomatch z
      · rw [upd_ne z, ext_at n E]; exact n, fun a m => ⟨by
      rcases List.mem_cons.mp m with m | m
      · rw [m]; exact .inr hq.1
      · exact .inl m, by
      by_cases z : a = W.p
      · rw [z, upd_same]; exact fun z => nomatch z
      · rw [upd_ne z]
        rcases List.mem_cons.mp m with m | m
        · rw [m]; exact hq.2.2
        · exact (c2.prv i a m).2⟩⟩
    have hff : ∀ a ∈ q :: fp i, I' a = none := fun a m => by
      rcases List.mem_cons.mp m with m | m
      · rw [m]; exact hq.2.1
      · exact (c2.prv i a m).1
    · obtain ⟨fp', o3, c3⟩ := hh.put2 (f' := q :: fp i) hg o1 cn e1 E.ii (fun a u e => by
        rw [upd_ne fun z => by rw [z, (c2.prv i _ hpf).1] at e; cases e]
        exact E.ih _ _ e) E.pr ch hff (show (oSes C).is I' _ _ _ _ from ⟨cad W q, by rw [ft.pp], ft.pu s2 a1 p1 hqf⟩)
      exact kt _ _ ⟨I', fp', o3, c3⟩
end
end Ov

/-! ## S2 -/
/-! A session in the typed layer: methods called, a session made. -/
namespace Ov
open PySem PySem.Spec PyProof.Rows L2 T
section
variable {P : Program} {w : World} {K : PySem.W.Frag} {mg : Str → Option Value} {base : Heap} {nm xn qual : Str} {params : Arguments} {bd : List Stmt} {sc : Scope} {fa : Addr} {fd : FuncData} {N ps : List Str} {k : Nat} {α β γ δ : Type}
theorem fnF_ok {f : Fld α} {s : Rep β} {pre : α → Prop} {post : α → β → Prop}
    (F : FunD K xn qual params bd sc [] [] fa fd) (S : FnScope N ps sc) (hb : Binds K fd ps []) (hn : f.n = ps.length)
    (body : ∀ (cdv : Value) (A : Around) (outer : List Env) (st : Shared) (H : Hp) (E : XK), Room k (A.deeper (envOfC qual sc st.heap.objs.size fa cdv)) → ∀ (b : Bs) (D : Ends) (x : α), pre x → (∀ Γ y, post x y → Rt b D Γ s y) → (∀ Γ y, post x y → (∀ I, s.is I .non y) → To D.nx b Γ) →
      ∃ bs, FB f x bs ∧ Run b (bodyX P w K mg base N qual sc fa cdv A outer st H E) bd D (bs ++ List.replicate (N.length - bs.length) .un)) (hl : ps.length ≤ N.length := by decide) : Fn1 P w K mg base fa (k + 1) ps (spF f s pre post) := by
  refine ⟨fd, F.ok S (fun vs H Q E h => ?_) (fun cdv A outer st H vs Q E hr h => ?_), F.kp, hb⟩
  · obtain ⟨x, I, _, z, _⟩ := h
    rw [f.len z, hn]
  · obtain ⟨x, I, s1, z, hp, q⟩ := h
    have go : ∀ {J G : Hp}, Ok ⟨I, H, []⟩ J G → Ext I H J G := fun o => ⟨o.i0, fun a u e => o.h0 a u e (by simp), o.ih, fun a ha n => o.pr a ha n⟩
    obtain ⟨bs, fb, run⟩ := body cdv A outer st H E hr ⟨I, H, []⟩ { nx := fun _ H' => Q .non H', rt := Q } x hp (fun Γ y hy σ J G fp v o c zz => q v J G y (go o) zz hy) (fun Γ y hy hnn σ G ⟨J, fp, o, c⟩ => q .non J G y (go o) (hnn J) hy)
    refine ⟨wSs (bodyX P w K mg base N qual sc fa cdv A outer st H E) bd, PSs.nox pss_w, ?_⟩
    have l := (fb.at_ z).1
    exact run _ _ ⟨I, _, ⟨Same.refl _, fun a u e _ => e, s1, fun a z n => n, fun a z => z⟩, start_cn fb z (by rw [← l, f.len z, hn]; exact hl)⟩
/-! ### __init__ -/
/-- an instance with these fields, raw -/
def oRaw (C : Addr) : Own (List (Str × V)) where
  is := fun _ H v f fs => ∃ p dx, v = .ref p ∧ f = [p] ∧ H p = some (.ins C dx fs)
  rep := ⟨fun _ _ _ => True, fun _ _ => trivial⟩
  up := fun _ g h => by
    obtain ⟨p, dx, e1, rfl, e2⟩ := h
    exact ⟨p, dx, e1, rfl, by rw [g p (by simp)]; exact e2⟩
  pub := fun _ _ _ => trivial
  nt := fun h a m ts z => by
    obtain ⟨p, dx, e1, rfl, e2⟩ := h
    simp only [List.mem_singleton] at m
    rw [m, e2] at z; cases z
/-- the promise of __init__ -/
def spI (C : Addr) (f : Fld β) (pre : β → Prop) (post : β → Ses → Prop) : Sp := fun vs H Q _ => ∃ (x dx : Addr) (ws : List V) (y : β) (I : Hp), vs = .ref x :: ws ∧ Same I H ∧ H x = some (.ins C dx []) ∧ I x = none ∧ f.is I ws y ∧ pre y ∧
  ∀ (I' H' : Hp) (fs' : List Addr) (S : Ses), Same I I' → Same I' H' → (∀ a, H a ≠ none → I a = none → I' a = none) → Chg H H' [x] fs' → (∀ a ∈ fs', I' a = none) → (oSes C).is I' H' (.ref x) fs' S → post y S → Q .non H'
theorem fnI_ok {C : Addr} {f : Fld β} {pre : β → Prop} {post : β → Ses → Prop}
    (F : FunD K xn qual params bd sc [] [] fa fd) (S : FnScope N ps sc) (hb : Binds K fd ps []) (hn : f.n + 1 = ps.length)
    (body : ∀ (cdv : Value) (A : Around) (outer : List Env) (st : Shared) (H : Hp) (E : XK), Room k (A.deeper (envOfC qual sc st.heap.objs.size fa cdv)) → ∀ (b : Bs) (D : Ends) (v : V) (y : β), pre y → (∀ Γ S', Γ[0]? = some (.slf v (oSes C) S') → post y S' → To D.nx b Γ) →
      ∃ bs, FB f y bs ∧ Run b (bodyX P w K mg base N qual sc fa cdv A outer st H E) bd D ((.slf v (oRaw C) [] :: bs) ++ List.replicate (N.length - (B.slf v (oRaw C) [] :: bs).length) .un)) (hl : ps.length ≤ N.length := by decide) : Fn1 P w K mg base fa (k + 1) ps (spI C f pre post) := by
  refine ⟨fd, F.ok S (fun vs H Q E h => ?_) (fun cdv A outer st H vs Q E hr h => ?_), F.kp, hb⟩
  · obtain ⟨x, dx, ws, y, I, rfl, _, _, _, z, _⟩ := h
    rw [List.length_cons, f.len z, hn]
  · obtain ⟨x, dx, ws, y, I, rfl, s1, hx, hix, z, hp, q⟩ := h
    have go : ∀ {σ : L2.St} {J G : Hp} {Γ : List B} {fp : Nat → List Addr} {S' : Ses}, Ok ⟨I, H, [x]⟩ J G → Cn ⟨I, H, [x]⟩ J G σ Γ fp → Γ[0]? = some (.slf (.ref x) (oSes C) S') → Same I J ∧ Same J G ∧ (∀ a, H a ≠ none → I a = none → J a = none) ∧ Chg H G [x] (fp 0) ∧ (∀ a ∈ fp 0, J a = none) ∧ (oSes C).is J G (.ref x) (fp 0) S' := fun {σ J G Γ fp S'} ok c g => by
      obtain ⟨e1, e2, e3⟩ := c.get_slf g
      refine ⟨ok.i0, ok.ih, ok.pr, ⟨fun a m n => ?_, ok.al, fun a m => ⟨?_, (c.prv 0 a m).2⟩⟩, fun a m => (c.prv 0 a m).1, e2⟩
      · cases e : H a with
        | none => exact absurd e n
        | some u => exact ok.h0 a u e m
      · rcases e3 a m with z | z
        · exact .inr z
        · exact .inl z
    obtain ⟨bs, fb, run⟩ := body cdv A outer st H E hr ⟨I, H, [x]⟩ { nx := fun _ H' => Q .non H', rt := Q } (.ref x) y hp (fun Γ S' g hz σ G ⟨J, fp, ok, c⟩ => by
        obtain ⟨q1, q2, q3, q4, q5, q6⟩ := go ok c g
        exact q J G (fp 0) S' q1 q2 q3 q4 q5 q6 hz)
    refine ⟨wSs (bodyX P w K mg base N qual sc fa cdv A outer st H E) bd, PSs.nox pss_w, ?_⟩
    have l := (fb.at_ z).1
    have hl2 : (B.slf (.ref x) (oRaw C) [] :: bs).length ≤ N.length := by
      rw [List.length_cons, ← l, f.len z, hn]; exact hl
    exact run _ _ ⟨I, _, ⟨Same.refl _, fun a u e _ => e, s1, fun a z n => n, fun a z => z⟩, start_cn1 (fs := [x]) fb z (sb := .slf (.ref x) (oRaw C) []) ⟨rfl, ⟨x, dx, rfl, rfl, hx⟩, fun a m => .inr m⟩ (fun a m => by
      simp only [List.mem_singleton] at m
      rw [m]
      exact ⟨hix, by rw [hx]; exact fun z => nomatch z⟩) ((oRaw C).nt (I := I) ⟨x, dx, rfl, rfl, hx⟩) hl2⟩
end
section
variable {α β γ δ : Type} {ρ : Bool} {b : Bs} {X : Cx} {Γ Γ' : List B} {e e0 e1 e2 : Expr} {es : List Expr} {r : Rep α} {x : α} {y : β} {pos apos : Pos} {D : Ends} {rest : List Stmt} {C : Addr} {S : Ses} {m nm : Str} {k0 : Nat} {ps : List Str}
/-! ### fields of an instance that is made -/
theorem cn_know {σ : L2.St} {I H : Hp} {fp : Nat → List Addr} (c : Cn b I H σ Γ fp) (j : Nat) {s : B} (h : SlotOk b I H σ[j]? s (fp j)) : Cn b I H σ (Γ.set j s) fp where
  len := by rw [List.length_set]; exact c.len
  at_ := fun l s' q => by
    by_cases e : j = l
    · subst e
      rw [List.getElem?_set_self (by have := (List.getElem?_eq_some_iff.mp q).1; rwa [List.length_set] at this)] at q
      cases q
      exact h
    · rw [List.getElem?_set_ne e] at q
      exact c.at_ l s' q
  dis := c.dis
  prv := c.prv
  nt := c.nt
theorem raw_put {v : V} {fs : List (Str × V)} {σ : L2.St} {I H : Hp} {fp : Nat → List Addr} {i : Nat} {p dx : Addr} {fs' : List (Str × V)} (hg : Γ[i]? = some (.slf v (oRaw C) fs)) (o : Ok b I H) (cn : Cn b I H σ Γ fp) (hv : v = .ref p) (hf : fp i = [p]) (hH : H p = some (.ins C dx fs)) : Ok b I (upd H p (.ins C dx fs')) ∧ ∃ fp', Cn b I (upd H p (.ins C dx fs')) σ (Γ.set i (.slf v (oRaw C) fs')) fp' := by
  obtain ⟨e1, _, hl⟩ := cn.get_slf hg
  obtain ⟨fp', o2, c2⟩ := Chg.slf (y := fs') (o := oRaw C) (Chg.upd (q := p) (u := .ins C dx fs') (f := fp i) (by rw [hf]; simp) fun a m => (cn.prv i a m).2) o cn hl e1 ⟨p, dx, hv, hf, upd_same⟩
  exact ⟨o2, fp', c2⟩
/-- self.f = e, public -/
theorem run_rawP {v : V} {fs : List (Str × V)} {n : Str} {p p1 : Pos} (i j : Nat) (c : Cls X.K C) (na : NoAttr X.K C nm) (hg : Γ[i]? = some (.slf v (oRaw C) fs)) (h : Ev true X Γ e r x) (hz : fs.length < 1000) (hij : i ≠ j) (hj : Γ[j]? = some .un)
    (kt : ∀ w, Run b X rest D ((Γ.set i (.slf v (oRaw C) (putF nm w fs))).set j (.gpb w r x))) (hN : X.N[i]? = some n := by rfl) (hv : Vis X.env.scope n := by first | exact Or.inl rfl | exact Or.inr (Or.inl rfl) | exact Or.inr (Or.inr rfl))
    (hd : (n == ("__debug__" : Str)) = false := by decide) (hcd : (n == ("__classdict__" : Str)) = false := by decide) (hs : swapsWith e (some (.Attribute (.Name n p) nm p1)) pos.line X.env = pure false := by rfl) :
    Run b X (.Assign [.Attribute (.Name n p) nm p1] e pos :: rest) D Γ :=
  run_of fun σ I H fp o1 cn => by
    obtain ⟨e1, ⟨q, dx, rfl, hf, hH⟩, hl⟩ := cn.get_slf hg
    refine PS.w (ps_fld (pv i hN hv hd hcd) pe_w hs) (h b σ I H fp o1.ih cn _ fun w I' H' E z => ?_)
    refine ⟨_, e1, q, C, dx, fs, rfl, E.hh _ _ hH, c, na, hz, ?_⟩
    have c2 := cn_know (cn.up E) j (s := .gpb w r x) z
    obtain ⟨o3, fp', c3⟩ := raw_put (i := i) (fs' := putF nm w fs) (Γ := Γ.set j (.gpb w r x)) (v := .ref q) (fs := fs) (by rw [List.getElem?_set_ne hij.symm]; exact hg) (o1.up E) c2 rfl hf (E.hh _ _ hH)
    rw [List.set_comm _ _ hij.symm] at c3
    exact kt w _ _ ⟨I', fp', o3, c3⟩
/-- self.f = e, a new thing -/
theorem run_rawN {v : V} {o : Own α} {fs : List (Str × V)} {n : Str} {p p1 : Pos} (i j : Nat) (c : Cls X.K C) (na : NoAttr X.K C nm) (hg : Γ[i]? = some (.slf v (oRaw C) fs)) (h : EvN X Γ e o x) (hz : fs.length < 1000) (hij : i ≠ j)
    (kt : ∀ w, Run b X rest D ((Γ.set i (.slf v (oRaw C) (putF nm w fs))).set j (.gho w o x))) (hN : X.N[i]? = some n := by rfl) (hv : Vis X.env.scope n := by first | exact Or.inl rfl | exact Or.inr (Or.inl rfl) | exact Or.inr (Or.inr rfl))
    (hd : (n == ("__debug__" : Str)) = false := by decide) (hcd : (n == ("__classdict__" : Str)) = false := by decide) (hs : swapsWith e (some (.Attribute (.Name n p) nm p1)) pos.line X.env = pure false := by rfl) :
    Run b X (.Assign [.Attribute (.Name n p) nm p1] e pos :: rest) D Γ :=
  run_of fun σ I H fp o1 cn => by
    obtain ⟨e1, ⟨q, dx, rfl, hf, hH⟩, hl⟩ := cn.get_slf hg
    refine PS.w (ps_fld (pv i hN hv hd hcd) pe_w hs) (h b σ I H fp o1.ih cn _ fun w I' H' f E z hfr => ?_)
    refine ⟨_, e1, q, C, dx, fs, rfl, E.hh _ _ hH, c, na, hz, ?_⟩
    have c2 := (cn.up E).putGho (i := j) (o := o) (x := x) (v := w) (f := f) (H' := H') z (fun a m => .inl (new_loc (I' := I) (H' := H) o1 (hfr a m).1)) (fun a m => (hfr a m).2) (fun l a _ m m2 => (cn.prv l a m2).2 (hfr a m).1) (fun _ _ _ _ => rfl)
    obtain ⟨o3, fp', c3⟩ := raw_put (i := i) (fs' := putF nm w fs) (Γ := Γ.set j (.gho w o x)) (v := .ref q) (fs := fs) (by rw [List.getElem?_set_ne hij.symm]; exact hg) (o1.up E) c2 rfl (by rw [if_neg hij]; exact hf) (E.hh _ _ hH)
    rw [List.set_comm _ _ hij.symm] at c3
    exact kt w _ _ ⟨I', fp', o3, c3⟩
/-- self.f[key] = x while it is made -/
theorem run_rawSet {v w : V} {t : Tab α} {key : PP} {fs : List (Str × V)} {n : Str} {p p1 p2 : Pos} (i j : Nat) (c : Cls X.K C) (na : NoAttr X.K C nm) (hu : X.A.units + 1 < cLine) (hg : Γ[i]? = some (.slf v (oRaw C) fs)) (hl : fs.lookup nm = some w) (hgj : Γ[j]? = some (.gho w (oTab r) t)) (h : Ev true X Γ e r x) (h2 : Ev true X Γ e2 rPP key) (hz : t.length < sizeLine)
    (kt : Run b X rest D (Γ.set j (.gho w (oTab r) (tput t key x)))) (hN : X.N[i]? = some n := by rfl) (hv : Vis X.env.scope n := by first | exact Or.inl rfl | exact Or.inr (Or.inl rfl) | exact Or.inr (Or.inr rfl))
    (hd : (n == ("__debug__" : Str)) = false := by decide) (hcd : (n == ("__classdict__" : Str)) = false := by decide) (hs : swapsWith e (some (.Subscript (.Attribute (.Name n p) nm p1) e2 p2)) pos.line X.env = pure false := by rfl) (hb : attributeBase (.Name n p) nm X.env (eval (.Name n p) X.env) = eval (.Name n p) X.env := by rfl) :
    Run b X (.Assign [.Subscript (.Attribute (.Name n p) nm p1) e2 p2] e pos :: rest) D Γ :=
  run_of fun σ I H fp o1 cn => by
    obtain ⟨e1, ⟨q, dx, rfl, hf, hH⟩, _⟩ := cn.get_slf hg
    obtain ⟨⟨qt, kvs, rfl, hft, a1, p1⟩, hlt⟩ := cn.get_gho hgj
    refine PS.w (ps_dput hu (pe_fld (pv i hN hv hd hcd) hb) pe_w pe_w hs) (h b σ I H fp o1.ih cn _ fun w I' H' E z => ⟨_, e1, q, C, dx, fs, _, rfl, (E.hh _ _ hH), c, na, hl, h2 b σ I' H' fp E.ih (cn.up E) _ fun w2 I2 H2 E2 z2 => ?_⟩)
    obtain ⟨bb, rfl, a2⟩ := rPP_of z2 (vw_in E2.ih)
    have E3 := E.trans E2
    have c2 := cn.up E3
    refine ⟨qt, _, rfl, DPut.t (E3.hh _ _ a1) a2 (by rw [p1.length]; exact hz), ?_⟩
    obtain ⟨fp', o3, c3⟩ := Chg.gho (o := oTab r) (y := tput t key x) (Chg.upd (q := qt) (f := fp j) (by rw [hft]; simp) fun a m => (c2.prv j a m).2) (o1.up E3) c2 hlt (v := .ref qt) ⟨qt, _, rfl, hft, upd_same, Ents.put kP_inj (Paired.mapP p1 fun _ _ z => ⟨z.1, r.up E3.ii z.2⟩) key (r.up E2.ii z)⟩
    exact kt _ _ ⟨I2, fp', o3, c3⟩
/-- all its fields are there -/
theorem run_rawJoin {v wo wl wr ww wp wm wh wk : V} (jo jl jr jw jp jm jh jk : Nat) {R : L2.St → Hp → Prop} (h0 : Γ[0]? = some (.slf v (oRaw C) [("_count", .int S.count), ("_order", wo), ("_links", wl), ("_pairs", wr), ("_lower", ww), ("_prices", wp), ("_middles", wm), ("_history", wh), ("_looked", wk)]))
    (ho : Γ[jo]? = some (.gpb wo (rLst rNat) S.order)) (hl : Γ[jl]? = some (.gho wl (oTab rOpt) S.links)) (hr : Γ[jr]? = some (.gpb wr (rLst rPP) S.pairs)) (hw : Γ[jw]? = some (.gpb ww (rTab (rLst rNat)) S.lower)) (hp : Γ[jp]? = some (.gho wp (oTab rOpt) S.prices)) (hm : Γ[jm]? = some (.gho wm (oTab rOpN) S.middles)) (hh : Γ[jh]? = some (.gho wh (oLst (rLst rEdit)) S.history)) (hk : Γ[jk]? = some (.gho wk (oLst rPP) S.looked))
    (nd : [0, jl, jp, jm, jh, jk].Nodup) (k : To R b (.slf v (oSes C) S :: List.replicate (Γ.length - 1) .un)) : To R b Γ := fun σ H ⟨I, fp, o, c⟩ => by
  obtain ⟨e1, ⟨p, dx, rfl, f0, hH⟩, l0⟩ := c.get_slf h0
  obtain ⟨ql, l1⟩ := c.get_gho hl
  obtain ⟨qp, l2⟩ := c.get_gho hp
  obtain ⟨qm, l3⟩ := c.get_gho hm
  obtain ⟨qh, l4⟩ := c.get_gho hh
  obtain ⟨qk, l5⟩ := c.get_gho hk
  obtain ⟨pl, kl, rfl, f1, a1, b1⟩ := ql
  obtain ⟨pp, kp, rfl, f2, a2, b2⟩ := qp
  obtain ⟨pm, km, rfl, f3, a3, b3⟩ := qm
  obtain ⟨ph, kh, rfl, f4, a4, b4⟩ := qh
  obtain ⟨pk, kk, rfl, f5, a5, b5⟩ := qk
  have zo := c.get_gpb ho
  have zr := c.get_gpb hr
  have zw := c.get_gpb hw
  let W : SesW := ⟨p, dx, pl, pp, pm, ph, pk, wo, wr, ww⟩
  let fs : List Addr := [p, pl, pp, pm, ph, pk]
  simp only [List.nodup_cons, List.mem_cons, List.not_mem_nil, or_false, not_or] at nd
  obtain ⟨⟨n1, n2, n3, n4, n5⟩, ⟨n6, n7, n8, n9⟩, ⟨n10, n11, n12⟩, ⟨n13, n14⟩, n15, _⟩ := nd
  have ne : ∀ {i j : Nat} {a c' : Addr}, fp i = [a] → fp j = [c'] → i ≠ j → a ≠ c' := fun {i j a c'} h1 h2 hn z => hn (c.dis i j a (by rw [h1]; simp) (by rw [h2, z]; simp))
  have allp : ∀ {Q : Addr → Prop}, (∀ i a, a ∈ fp i → (i = 0 ∨ i = jl ∨ i = jp ∨ i = jm ∨ i = jh ∨ i = jk) → Q a) → ∀ a ∈ fs, Q a := fun {Q} hq a m => by
    simp only [fs, List.mem_cons, List.not_mem_nil, or_false] at m
    rcases m with rfl | rfl | rfl | rfl | rfl | rfl
    · exact hq 0 _ (by rw [f0]; simp) (.inl rfl)
    · exact hq jl _ (by rw [f1]; simp) (.inr (.inl rfl))
    · exact hq jp _ (by rw [f2]; simp) (.inr (.inr (.inl rfl)))
    · exact hq jm _ (by rw [f3]; simp) (.inr (.inr (.inr (.inl rfl))))
    · exact hq jh _ (by rw [f4]; simp) (.inr (.inr (.inr (.inr (.inl rfl)))))
    · exact hq jk _ (by rw [f5]; simp) (.inr (.inr (.inr (.inr (.inr rfl)))))
  have hs : SesAt C I H fs W S := ⟨hH, zo, ⟨pl, kl, rfl, rfl, a1, b1⟩, zr, zw, ⟨pp, kp, rfl, rfl, a2, b2⟩, ⟨pm, km, rfl, rfl, a3, b3⟩, ⟨ph, kh, rfl, rfl, a4, b4⟩, ⟨pk, kk, rfl, rfl, a5, b5⟩, by
    show [p, pl, pp, pm, ph, pk].Nodup
    simp only [List.nodup_cons, List.mem_cons, List.not_mem_nil, or_false, not_or]
    exact ⟨⟨ne f0 f1 n1, ne f0 f2 n2, ne f0 f3 n3, ne f0 f4 n4, ne f0 f5 n5⟩, ⟨ne f1 f2 n6, ne f1 f3 n7, ne f1 f4 n8, ne f1 f5 n9⟩, ⟨ne f2 f3 n10, ne f2 f4 n11, ne f2 f5 n12⟩, ⟨ne f3 f4 n13, ne f3 f5 n14⟩, ne f4 f5 n15, id, List.nodup_nil⟩, fun a m => m, allp fun i a m _ => c.nt i a m⟩
  have hlen : 0 < Γ.length := (List.getElem?_eq_some_iff.mp h0).1
  refine k σ H ⟨I, fun i => if i = 0 then fs else [], o, ⟨?_, fun i s q => ?_, fun i j a m1 m2 => ?_, fun i a m => ?_, fun i a m => ?_⟩⟩
  · rw [c.len, List.length_cons, List.length_replicate]; omega
  · cases i with
    | zero =>
      cases q
      exact ⟨e1, ⟨W, rfl, hs⟩, allp fun i a m hi => by
        rcases hi with rfl | rfl | rfl | rfl | rfl | rfl
        · exact l0 a m
        · exact l1 a m
        · exact l2 a m
        · exact l3 a m
        · exact l4 a m
        · exact l5 a m⟩
    | succ i =>
      have q : (List.replicate (Γ.length - 1) B.un)[i]? = some s := q
      rw [List.getElem?_replicate] at q
      split at q
      · cases q; trivial
      · cases q
  · split at m1
    · split at m2
      · omega
      · simp at m2
    · simp at m1
  · split at m
    · exact allp (Q := fun a => I a = none ∧ H a ≠ none) (fun i a m _ => c.prv i a m) a m
    · simp at m
  · split at m
    · exact hs.nt a m
    · simp at m
end
end Ov

/-! ## S3 -/
/-! A session in the typed layer: methods called, a session made. -/
namespace Ov
open PySem PySem.Spec PyProof.Rows L2 T
section
variable {α β γ δ : Type} {ρ : Bool} {b : Bs} {X : Cx} {Γ Γ' : List B} {e e0 e1 e2 : Expr} {es : List Expr} {r : Rep α} {x : α} {y : β} {pos apos : Pos} {D : Ends} {rest : List Stmt} {C : Addr} {S : Ses} {m nm : Str} {k0 : Nat} {ps : List Str}
theorem lk_none {W : SesW} {c : Nat} (hn : ∀ W c, (sesF W c).lookup m = none) : (sesF W c).lookup m = none := hn W c
/-- o.m(..), a method that reads -/
theorem ev_methF {f : Fld β} {s : Rep δ} {pre : Ses × β → Prop} {post : Ses × β → δ → Prop} {pl : Sem Bool} (F : MCal X.prog X.w X.K X.mg X.base C m k0 ps (spF (fCons (rSes C) f) s pre post)) (hr : Room k0 X.A) (h0 : Ev ρ X Γ e0 (rSes C) S) (ha : EvF ρ X Γ (e :: es) f y) (hx : pre (S, y)) (hn : ∀ W c, (sesF W c).lookup m = none := by intro _ _; rfl)
    (hst : starEach (e :: es) X.env = (false, eval e X.env) :: starEach es X.env := by rfl) (hpl : (backTo pos (starEach es X.env)).any (·.1) = false := by rfl)
    (ht : eval (.Call (.Attribute e0 m apos) (e :: es) [] pos) X.env = (do
      let ov ← eval e0 X.env
      standAt apos.atName
      let (f, first) ← holding [ov] (getMethod ov m pl)
      callWith pos f first (backTo pos (starEach (e :: es) X.env)) (backToKw pos (keywordEach [] X.env))) := by rfl) : EvP ρ X Γ (.Call (.Attribute e0 m apos) (e :: es) [] pos) s (post (S, y)) := by
  obtain ⟨fa, fd, F, hm, hc, hb⟩ := F.ex
  exact fun b σ I H fp hS k Q hq => PE.w (pe_meth pe_w hc hm F hr hb .nil pass0 pa_w hst hpl ht) (h0 b σ I H fp hS k _ fun v I1 H1 E1 z1 => by
    obtain ⟨W, rfl, s1⟩ := z1
    refine ⟨W.p, W.dx, _, rfl, vw_in E1.ih _ _ s1.at_, hn _ _, ha b σ I1 H1 fp E1.ih (k.up E1) _ fun vs I2 H2 E2 z2 => ?_⟩
    have E := E1.trans E2
    refine ⟨(S, y), vw ρ I2 H2 fp, vw_in E2.ih, ?_, hx, fun u J H' yy E3 z3 hp => ?_⟩
    · rw [List.append_nil]
      exact ⟨_, vs, rfl, (rSes C).up (vw_up E2) ⟨W, rfl, s1⟩, z2⟩
    · obtain ⟨I3, E4, s3⟩ := vw_call (k.up E).prv E2.ih E3
      exact hq u I3 H' yy (E.trans E4) (s.up s3 z3) hp)
/-- o.m(..), a method that changes its own -/
theorem em_meth {o : Own Ses} {f : Fld β} {s : Rep δ} {pre : Ses → β → Prop} {post : Ses → β → δ → Ses → Prop} {sb : B} {mk : Ses → B} {n : Str} {p : Pos} {pl : Sem Bool} (i : Nat) (so : SesO C o) (F : MCal X.prog X.w X.K X.mg X.base C m k0 ps (spM o f s pre post)) (hr : Room k0 X.A) (g : Γ[i]? = some sb) (hh : Hold sb o S mk) (ha : EvF true X Γ (e :: es) f y) (hx : pre S y) (hn : ∀ W c, (sesF W c).lookup m = none := by intro _ _; rfl)
    (hN : X.N[i]? = some n := by rfl) (hv : Vis X.env.scope n := by first | exact Or.inl rfl | exact Or.inr (Or.inl rfl) | exact Or.inr (Or.inr rfl)) (hd : (n == ("__debug__" : Str)) = false := by decide) (hcd : (n == ("__classdict__" : Str)) = false := by decide)
    (hst : starEach (e :: es) X.env = (false, eval e X.env) :: starEach es X.env := by rfl) (hpl : (backTo pos (starEach es X.env)).any (·.1) = false := by rfl)
    (ht : eval (.Call (.Attribute (.Name n p) m apos) (e :: es) [] pos) X.env = (do
      let ov ← eval (.Name n p) X.env
      standAt apos.atName
      let (f, first) ← holding [ov] (getMethod ov m pl)
      callWith pos f first (backTo pos (starEach (e :: es) X.env)) (backToKw pos (keywordEach [] X.env))) := by rfl) : EvM b X Γ (.Call (.Attribute (.Name n p) m apos) (e :: es) [] pos) s (fun z Γ' => ∃ S', post S y z S' ∧ Γ' = Γ.set i (mk S')) := by
  obtain ⟨fa, fd, F, hm, hc, hb⟩ := F.ex
  exact fun σ I H fp ok c Q hq => PE.w (pe_meth (pv i hN hv hd hcd) hc hm F hr hb .nil pass0 pa_w hst hpl ht) (by
    obtain ⟨v, e1, e2, e3⟩ := hh.get (c.at_ i sb g)
    obtain ⟨W, rfl, s1, _⟩ := so.get e2
    refine ⟨_, e1, W.p, W.dx, _, rfl, s1.at_, hn _ _, ha b σ I H fp ok.ih c _ fun ws I1 H1 E z => ?_⟩
    have c1 := c.up E
    obtain ⟨v', e1', e2', _⟩ := hh.get (c1.at_ i sb g)
    rw [e1] at e1'; cases e1'
    refine ⟨_, ws, S, y, I1, fp i, by rw [List.append_nil], E.ih, e2', fun a m => c1.prv i a m, z, hx, fun u I' H' fs' z' x' q1 q2 q3 q4 q5 q6 q7 q8 => ?_⟩
    obtain ⟨fp', o2, c2⟩ := hh.put2 g (ok.up E) c1 e1 q1 q2 q3 q4 q5 q6
    exact hq u I' H' fp' z' _ o2 c2 (E.ii.trans q1) q7 ⟨x', q8, rfl⟩)
/-- o.m() -/
theorem em_meth0 {o : Own Ses} {s : Rep δ} {pre : Ses → Unit → Prop} {post : Ses → Unit → δ → Ses → Prop} {sb : B} {mk : Ses → B} {n : Str} {p : Pos} {pl : Sem Bool} (i : Nat) (so : SesO C o) (F : MCal X.prog X.w X.K X.mg X.base C m k0 ps (spM o fNil s pre post)) (hr : Room k0 X.A) (g : Γ[i]? = some sb) (hh : Hold sb o S mk) (hx : pre S ()) (hn : ∀ W c, (sesF W c).lookup m = none := by intro _ _; rfl)
    (hN : X.N[i]? = some n := by rfl) (hv : Vis X.env.scope n := by first | exact Or.inl rfl | exact Or.inr (Or.inl rfl) | exact Or.inr (Or.inr rfl)) (hd : (n == ("__debug__" : Str)) = false := by decide) (hcd : (n == ("__classdict__" : Str)) = false := by decide)
    (ht : eval (.Call (.Attribute (.Name n p) m apos) [] [] pos) X.env = (do
      let ov ← eval (.Name n p) X.env
      standAt apos.atName
      let (f, first) ← holding [ov] (getMethod ov m pl)
      callWith pos f first (backTo pos (starEach [] X.env)) (backToKw pos (keywordEach [] X.env))) := by rfl) : EvM b X Γ (.Call (.Attribute (.Name n p) m apos) [] [] pos) s (fun z Γ' => ∃ S', post S () z S' ∧ Γ' = Γ.set i (mk S')) := by
  obtain ⟨fa, fd, F, hm, hc, hb⟩ := F.ex
  exact fun σ I H fp ok c Q hq => PE.w (pe_meth0 (pv i hN hv hd hcd) hc hm F hr hb .nil pass0 ht) (by
    obtain ⟨v, e1, e2, e3⟩ := hh.get (c.at_ i sb g)
    obtain ⟨W, rfl, s1, _⟩ := so.get e2
    refine ⟨_, e1, W.p, W.dx, _, rfl, s1.at_, hn _ _, ?_⟩
    refine ⟨_, [], S, (), I, fp i, rfl, ok.ih, e2, fun a m => c.prv i a m, rfl, hx, fun u I' H' fs' z' x' q1 q2 q3 q4 q5 q6 q7 q8 => ?_⟩
    obtain ⟨fp', o2, c2⟩ := hh.put2 g ok c e1 q1 q2 q3 q4 q5 q6
    exact hq u I' H' fp' z' _ o2 c2 q1 q7 ⟨x', q8, rfl⟩)
/-- o.m(), a method that reads and gives something public -/
theorem ev_methR0 {o : Own Ses} {s : Rep δ} {pre : Ses → Unit → Prop} {post : Ses → Unit → δ → Prop} {sb : B} {n : Str} {p : Pos} {pl : Sem Bool} (i : Nat) (so : SesO C o) (F : MCal X.prog X.w X.K X.mg X.base C m k0 ps (spR o fNil s pre post)) (hr : Room k0 X.A) (g : Γ[i]? = some sb) (pk : Peek sb o S) (hx : pre S ()) (hn : ∀ W c, (sesF W c).lookup m = none := by intro _ _; rfl)
    (hN : X.N[i]? = some n := by rfl) (hv : Vis X.env.scope n := by first | exact Or.inl rfl | exact Or.inr (Or.inl rfl) | exact Or.inr (Or.inr rfl)) (hd : (n == ("__debug__" : Str)) = false := by decide) (hcd : (n == ("__classdict__" : Str)) = false := by decide)
    (ht : eval (.Call (.Attribute (.Name n p) m apos) [] [] pos) X.env = (do
      let ov ← eval (.Name n p) X.env
      standAt apos.atName
      let (f, first) ← holding [ov] (getMethod ov m pl)
      callWith pos f first (backTo pos (starEach [] X.env)) (backToKw pos (keywordEach [] X.env))) := by rfl) : EvP true X Γ (.Call (.Attribute (.Name n p) m apos) [] [] pos) s (post S ()) := by
  obtain ⟨fa, fd, F, hm, hc, hb⟩ := F.ex
  exact fun b σ I H fp hS c Q hq => PE.w (pe_meth0 (pv i hN hv hd hcd) hc hm F hr hb .nil pass0 ht) (by
    obtain ⟨v, e1, e2⟩ := pk.get (c.at_ i sb g)
    obtain ⟨W, rfl, s1, _⟩ := so.get e2
    refine ⟨_, e1, W.p, W.dx, _, rfl, s1.at_, hn _ _, ?_⟩
    exact ⟨_, [], S, (), I, fp i, rfl, hS, e2, fun a m => c.prv i a m, rfl, hx, fun u I' H' z E z2 hz => hq u I' H' z E z2 hz⟩)
/-- o.m(), a method that reads and gives a new thing -/
theorem ev_methRN0 {o : Own Ses} {s : Own δ} {pre : Ses → Unit → Prop} {g' : Ses → δ} {sb : B} {n : Str} {p : Pos} {pl : Sem Bool} (i : Nat) (so : SesO C o) (F : MCal X.prog X.w X.K X.mg X.base C m k0 ps (spRN o fNil s pre (fun S _ z => z = g' S))) (hr : Room k0 X.A) (g : Γ[i]? = some sb) (pk : Peek sb o S) (hx : pre S ()) (hn : ∀ W c, (sesF W c).lookup m = none := by intro _ _; rfl)
    (hN : X.N[i]? = some n := by rfl) (hv : Vis X.env.scope n := by first | exact Or.inl rfl | exact Or.inr (Or.inl rfl) | exact Or.inr (Or.inr rfl)) (hd : (n == ("__debug__" : Str)) = false := by decide) (hcd : (n == ("__classdict__" : Str)) = false := by decide)
    (ht : eval (.Call (.Attribute (.Name n p) m apos) [] [] pos) X.env = (do
      let ov ← eval (.Name n p) X.env
      standAt apos.atName
      let (f, first) ← holding [ov] (getMethod ov m pl)
      callWith pos f first (backTo pos (starEach [] X.env)) (backToKw pos (keywordEach [] X.env))) := by rfl) : EvN X Γ (.Call (.Attribute (.Name n p) m apos) [] [] pos) s (g' S) := by
  obtain ⟨fa, fd, F, hm, hc, hb⟩ := F.ex
  exact fun b σ I H fp hS c Q hq => PE.w (pe_meth0 (pv i hN hv hd hcd) hc hm F hr hb .nil pass0 ht) (by
    obtain ⟨v, e1, e2⟩ := pk.get (c.at_ i sb g)
    obtain ⟨W, rfl, s1, _⟩ := so.get e2
    refine ⟨_, e1, W.p, W.dx, _, rfl, s1.at_, hn _ _, ?_⟩
    refine ⟨_, [], S, (), I, fp i, rfl, hS, e2, fun a m => c.prv i a m, rfl, hx, fun u I' H' z gs E z2 hgs hz => ?_⟩
    subst hz
    exact hq u I' H' gs E z2 hgs)
/-- Session(..) -/
theorem ev_make {f : Fld β} {pre : β → Prop} {g : β → Ses} {n : Str} {p : Pos} {fa : Addr} {fd : FuncData} (F : FnOk X.prog X.w X.K X.mg X.base CX0 k0 fa fd ps (spI C f pre (fun y S => S = g y))) (hb : Binds X.K fd ps []) (M : Mk X.K C fa) (hr : Room (k0 + 1) X.A) (hm : X.mg n = some (.ref C)) (ha : EvF true X Γ (e :: es) f y) (hx : pre y) (hg : Gl X n := by rfl) (hdb : (n == ("__debug__" : Str)) = false := by decide)
    (he : starEach (e :: es) X.env = (false, eval e X.env) :: starEach es X.env := by rfl) (hp : (backTo pos (starEach es X.env)).any (·.1) = false := by rfl) : EvN X Γ (.Call (.Name n p) (e :: es) [] pos) (oSes C) (g y) :=
  fun b σ I H fp hS k Q hq => PE.w (pe_make M F hr hg hm hb .nil pass0 pa_w hdb he hp) (ha b σ I H fp hS k _ fun vs I1 H1 E z x dx hx1 hdx1 hne => by
    have s1 : Same I1 (upd (upd H1 dx (.own x)) x (.ins C dx [])) := fun a u e => by
      have h1 := E.ih _ _ e
      have ax : a ≠ x := fun z => by rw [z, hx1] at h1; cases h1
      have ad : a ≠ dx := fun z => by rw [z, hdx1] at h1; cases h1
      rw [upd_ne ax, upd_ne ad]
      exact h1
    refine ⟨x, dx, vs, y, I1, by rw [List.append_nil], s1, upd_same, E.ih.free hx1, z, hx, fun I' H' fs' S e1 e2 e3 e4 e5 e6 e7 => ⟨rfl, ?_⟩⟩
    subst e7
    have old : ∀ a, H1 a ≠ none → H' a = H1 a := fun a n => by
      have ax : a ≠ x := fun z => n (by rw [z]; exact hx1)
      have ad : a ≠ dx := fun z => n (by rw [z]; exact hdx1)
      have h2 : upd (upd H1 dx (.own x)) x (.ins C dx []) a = H1 a := by rw [upd_ne ax, upd_ne ad]
      rw [e4.hk a (by simpa using ax) (by rw [h2]; exact n), h2]
    have E2 : Ext I1 H1 I' H' := ⟨e1, fun a u e => by rw [old a (by rw [e]; exact fun z => nomatch z)]; exact e, e2, fun a n z => e3 a (by
      have ax : a ≠ x := fun z => n (by rw [z]; exact hx1)
      have ad : a ≠ dx := fun z => n (by rw [z]; exact hdx1)
      rw [upd_ne ax, upd_ne ad]; exact n) z⟩
    refine hq _ I' H' fs' (E.trans E2) e6 fun a m => ⟨E.hh.free ?_, e5 a m, (e4.hf a m).2⟩
    rcases (e4.hf a m).1 with z | z
    · simp only [List.mem_singleton] at z
      rw [z]; exact hx1
    · by_cases ax : a = x
      · rw [ax]; exact hx1
      · rw [upd_ne ax] at z
        by_cases ad : a = dx
        · rw [ad]; exact hdx1
        · rw [upd_ne ad] at z; exact z)
theorem prd_dropLast {F : V → α → Prop} {vs : List V} {xs : List α} (h : Paired F vs xs) : Paired F vs.dropLast xs.dropLast := by
  rw [List.dropLast_eq_take, List.dropLast_eq_take, Paired.length h]
  exact prd_take _ h
/-- self._history.pop() -/
theorem em_pop {sb : B} {o : Own Ses} {mk : Ses → B} {n : Str} {p p1 p2 : Pos} {last : List Edit} (i : Nat) (so : SesO C o) (c : Cls X.K C) (na : NoAttr X.K C "_history") (hg : Γ[i]? = some sb) (hh : Hold sb o S mk) (hl : S.history.getLast? = some last)
    (hN : X.N[i]? = some n := by rfl) (hv : Vis X.env.scope n := by first | exact Or.inl rfl | exact Or.inr (Or.inl rfl) | exact Or.inr (Or.inr rfl)) (hd : (n == ("__debug__" : Str)) = false := by decide) (hcd : (n == ("__classdict__" : Str)) = false := by decide) (hb : attributeBase (.Name n p) "_history" X.env (eval (.Name n p) X.env) = eval (.Name n p) X.env := by rfl)
    (hp : ∀ te : TE, PE X (.Attribute (.Name n p) "_history" p1) te → PE X (.Call (.Attribute (.Attribute (.Name n p) "_history" p1) "pop" p2) [] [] pos) (tBM0 X.K "list" rPop te) := by exact fun _ h => pe_bm0 PySem.F.plainAttrs_list PySem.F.slot_list_pop PySem.F.type_list_pop mt_pop h) :
    EvM b X Γ (.Call (.Attribute (.Attribute (.Name n p) "_history" p1) "pop" p2) [] [] pos) (rLst rEdit) (fun z Γ' => z = last ∧ Γ' = Γ.set i (mk { S with history := S.history.dropLast })) :=
  fun σ I H fp ok cn Q hq => by
    obtain ⟨v, e1, z1, _⟩ := hh.get (cn.at_ i sb hg)
    obtain ⟨W, rfl, s1, mk1⟩ := so.get z1
    obtain ⟨q, vs, e4, _, a1, p1'⟩ := s1.his
    cases e4
    have hlen := Paired.length p1'
    obtain ⟨ys, hys⟩ := List.getLast?_eq_some_iff.mp hl
    have hls : S.history[vs.length - 1]? = some last := by rw [hlen, hys]; simp
    have hvl : vs.length - 1 < vs.length := by
      have := (List.getElem?_eq_some_iff.mp hls).1
      omega
    obtain ⟨y, hy1, hy2⟩ := prd_get' p1' (List.getElem?_eq_getElem hvl)
    rw [hls] at hy1
    cases hy1
    refine PE.w (hp _ (pe_fld (pv i hN hv hd hcd) hb)) ⟨_, e1, W.p, C, W.dx, _, _, rfl, s1.at_, c, na, rfl, .inl ⟨rfl, _, SqL.of a1⟩, W.ph, vs, _, rfl, rfl, a1, List.getElem?_eq_getElem hvl, ?_⟩
    obtain ⟨fp', o2, c2⟩ := hh.pu hg ok cn (Chg.upd (q := W.ph) (u := .lst vs.dropLast) (adr_in s1.mem).2.2.2.2.1 fun a ma => (cn.prv i a ma).2) e1 (mk1 (s1.setHistory (prd_dropLast p1')))
    exact hq _ I _ fp' last _ o2 c2 (Same.refl _) hy2 ⟨rfl, rfl⟩
/-- where its parts are, is known -/
theorem run_sesW {st : List Stmt} {v : V} (i : Nat) (g : Γ[i]? = some (.slf v (oSes C) S)) (k : ∀ W, Run b X st D (Γ.set i (.slf v (oSesW C W) S))) : Run b X st D Γ := fun σ H ⟨I, fp, o, c⟩ => by
  obtain ⟨e1, ⟨W, e2, s⟩, l⟩ := c.get_slf g
  exact k W σ H ⟨I, fp, o, cn_know c i ⟨e1, ⟨e2, s⟩, l⟩⟩
theorem run_sesU {st : List Stmt} {v : V} {W : SesW} (i : Nat) (g : Γ[i]? = some (.slf v (oSesW C W) S)) (k : Run b X st D (Γ.set i (.slf v (oSes C) S))) : Run b X st D Γ := fun σ H ⟨I, fp, o, c⟩ => by
  obtain ⟨e1, ⟨e2, s⟩, l⟩ := c.get_slf g
  exact k σ H ⟨I, fp, o, cn_know c i ⟨e1, ⟨W, e2, s⟩, l⟩⟩
/-- self._history.append(e), where e changes what self holds -/
theorem run_histApp {n : Str} {p p1 p2 p3 : Pos} {v : V} {W : SesW} {P : List Edit → List B → Prop} (i : Nat) (c : Cls X.K C) (na : NoAttr X.K C "_history") (hg : Γ[i]? = some (.slf v (oSesW C W) S)) (h : EvM b X Γ e (rLst rEdit) P) (hP : ∀ z Γ', P z Γ' → ∃ S', Γ'[i]? = some (.slf v (oSesW C W) S') ∧ S'.history.length < sizeLine ∧ Run b X rest D (Γ'.set i (.slf v (oSesW C W) { S' with history := S'.history ++ [z] })))
    (hN : X.N[i]? = some n := by rfl) (hv : Vis X.env.scope n := by first | exact Or.inl rfl | exact Or.inr (Or.inl rfl) | exact Or.inr (Or.inr rfl))
    (hd : (n == ("__debug__" : Str)) = false := by decide) (hcd : (n == ("__classdict__" : Str)) = false := by decide) (hb : attributeBase (.Name n p) "_history" X.env (eval (.Name n p) X.env) = eval (.Name n p) X.env := by rfl)
    (hp : ∀ te : TE, PE X (.Attribute (.Name n p) "_history" p1) te → PS X (.Expr (.Call (.Attribute (.Attribute (.Name n p) "_history" p1) "append" p2) [e] [] p3) pos) (tDrop (tBM X.K "list" rAppend te (tCons (wE X e) tNil))) := by exact fun _ h => ps_expr (pe_bm PySem.F.plainAttrs_list PySem.F.slot_list_append PySem.F.type_list_append mt_append h (pa_cons pe_w pa_nil))) :
    Run b X (.Expr (.Call (.Attribute (.Attribute (.Name n p) "_history" p1) "append" p2) [e] [] p3) pos :: rest) D Γ :=
  run_of fun σ I H fp o1 cn => by
    obtain ⟨e1, ⟨rfl, s1⟩, hl⟩ := cn.get_slf hg
    obtain ⟨q, vs, e4, _, a1, _⟩ := s1.his
    cases e4
    refine PS.w (hp _ (pe_fld (pv i hN hv hd hcd) hb)) ⟨_, e1, W.p, C, W.dx, _, _, rfl, s1.at_, c, na, rfl, .inl ⟨rfl, _, SqL.of a1⟩, h σ I H fp o1 cn _ fun w I' H' fp' z Γ' o2 c2 _ hz hpz => ?_⟩
    obtain ⟨S', g', hs, kt⟩ := hP z Γ' hpz
    obtain ⟨e1', ⟨_, s2⟩, hl'⟩ := c2.get_slf g'
    obtain ⟨q, vs', e5, _, a2, p2⟩ := s2.his
    cases e5
    refine ⟨W.ph, vs', w, rfl, rfl, a2, by rw [Paired.length p2]; exact hs, ?_⟩
    exact kt _ _ (hold_slf.put g' o2 c2 (Chg.upd (q := W.ph) (adr_in s2.mem).2.2.2.2.1 fun a ma => (c2.prv i a ma).2) e1' (show (oSesW C W).is I' _ _ _ _ from ⟨rfl, s2.setHistory (Paired.snoc p2 hz)⟩))
end
end Ov

/-! ## S4 -/
/-! More for sessions. -/
namespace Ov
open PySem PySem.Spec PyProof.Rows L2 T
section
variable {α β γ δ : Type} {ρ : Bool} {b : Bs} {X : Cx} {Γ Γ' : List B} {e e0 e1 e2 : Expr} {es : List Expr} {r : Rep α} {x : α} {y : β} {pos apos : Pos} {D : Ends} {rest : List Stmt} {C : Addr} {S : Ses} {m nm : Str} {k0 : Nat} {ps : List Str}
abbrev rChange : Rep Change := rTup (fCons rNat (fCons rNat (fCons rOpt (fOne rOpt))))
/-- list(l), l a list whose items are public -/
theorem ev_listE {xs : List α} {p : Pos} (hm : X.mg "list" = none) (h : EvL X Γ e r xs) (hg : Gl X "list" := by rfl) (hs : starEach [e] X.env = (false, eval e X.env) :: starEach [] X.env := by rfl) (hp : (backTo pos (starEach [] X.env)).any (·.1) = false := by rfl) : EvN X Γ (.Call (.Name "list" p) [e] [] pos) (oLst r) xs :=
  fun b σ I H fp hS k Q hq => PE.w (pe_callTy call_list_of hg hm (by decide +kernel) (pa_cons pe_w pa_nil hs) (by decide) (by decide) hs hp) (h b σ I H fp hS k _ fun p ws I1 H1 E h1 h2 => ⟨p, ws, rfl, .inl (SqL.of h1), fun l hl => by
    refine hq _ I1 _ [l] (E.trans (Ext.own E.ih hl)) ⟨l, _, rfl, rfl, upd_same, h2⟩ fun a m => ?_
    obtain rfl : a = l := by simpa using m
    exact ⟨E.hh.free hl, E.ih.free hl, by rw [upd_same]; exact fun z => nomatch z⟩⟩)
/-- self.f = e, a number -/
theorem run_rawI {v : V} {k : Nat} {fs : List (Str × V)} {n : Str} {p p1 : Pos} (i : Nat) (c : Cls X.K C) (na : NoAttr X.K C nm) (hg : Γ[i]? = some (.slf v (oRaw C) fs)) (h : Ev true X Γ e rNat k) (hz : fs.length < 1000)
    (kt : Run b X rest D (Γ.set i (.slf v (oRaw C) (putF nm (.int k) fs)))) (hN : X.N[i]? = some n := by rfl) (hv : Vis X.env.scope n := by first | exact Or.inl rfl | exact Or.inr (Or.inl rfl) | exact Or.inr (Or.inr rfl))
    (hd : (n == ("__debug__" : Str)) = false := by decide) (hcd : (n == ("__classdict__" : Str)) = false := by decide) (hs : swapsWith e (some (.Attribute (.Name n p) nm p1)) pos.line X.env = pure false := by rfl) :
    Run b X (.Assign [.Attribute (.Name n p) nm p1] e pos :: rest) D Γ :=
  run_of fun σ I H fp o1 cn => by
    obtain ⟨e1, ⟨q, dx, rfl, hf, hH⟩, hl⟩ := cn.get_slf hg
    refine PS.w (ps_fld (pv i hN hv hd hcd) pe_w hs) (h b σ I H fp o1.ih cn _ fun w I' H' E z => ?_)
    cases z
    refine ⟨_, e1, q, C, dx, fs, rfl, E.hh _ _ hH, c, na, hz, ?_⟩
    obtain ⟨o3, fp', c3⟩ := raw_put (i := i) (fs' := putF nm (.int k) fs) (v := .ref q) (fs := fs) hg (o1.up E) (cn.up E) rfl hf (E.hh _ _ hH)
    exact kt _ _ ⟨I', fp', o3, c3⟩
end
end Ov

/-! ## F7 -/
namespace Ov
open PySem PySem.Spec PyProof.Rows L2 T

theorem hu65 {k : Nat} {A : Around} (h : Room k A) : A.units + 65 < cLine := by have := h.un; omega
section
variable {β δ : Type} {ρ : Bool} {X : Cx} {Γ : List B} {e e0 : Expr} {es : List Expr} {y : β} {pos apos : Pos} {C : Addr} {S : Ses} {m : Str} {k0 : Nat} {ps : List Str}
theorem et_chain2 {e1 e2 e3 : Expr} {i j l : Int} (h1 : Ev true X Γ e1 rInt i) (h2 : Ev true X Γ e2 rInt j) (h3 : Ev true X Γ e3 rInt l) (hm : lastMarks [.LtE, .LtE] [e2, e3] = false := by with_unfolding_all rfl) : EvT X Γ (.Compare e1 [.LtE, .LtE] [e2, e3] pos) (decide (i ≤ j) && decide (j ≤ l)) := fun b σ I H fp hS k Q hq =>
  PT.w (pt_chain op_le op_le pe_w pe_w pe_w hm) (h1 b σ I H fp hS k _ fun v I1 H1 E1 z1 => h2 b σ I1 H1 fp E1.ih (k.up E1) _ fun w I2 H2 E2 z2 => by
    cases z1; cases z2
    refine ⟨i, j, rfl, rfl, _, rfl, ?_⟩
    by_cases c : i ≤ j
    · rw [decide_eq_true c] at hq ⊢
      exact iteT (h3 b σ I2 H2 fp E2.ih ((k.up E1).up E2) _ fun u I3 H3 E3 z3 => by
        cases z3
        exact ⟨j, l, rfl, rfl, _, rfl, hq I3 H3 ((E1.trans E2).trans E3)⟩)
    · rw [decide_eq_false c] at hq ⊢
      exact iteF ⟨_, rfl, hq I2 H2 (E1.trans E2)⟩)
theorem ev_methZ {f : Fld β} {s : Rep δ} {pre : Ses × β → Prop} {g : Ses × β → δ} {z : δ} {pl : Sem Bool} (S : Ses) (y : β) (F : MCal X.prog X.w X.K X.mg X.base C m k0 ps (spF (fCons (rSes C) f) s pre (fun x y => y = g x))) (hr : Room k0 X.A) (h0 : Ev ρ X Γ e0 (rSes C) S) (ha : EvF ρ X Γ (e :: es) f y) (hx : pre (S, y)) (hz : g (S, y) = z := by rfl) (hn : ∀ W c, (sesF W c).lookup m = none := by intro _ _; rfl)
    (hst : starEach (e :: es) X.env = (false, eval e X.env) :: starEach es X.env := by rfl) (hpl : (backTo pos (starEach es X.env)).any (·.1) = false := by rfl)
    (ht : eval (.Call (.Attribute e0 m apos) (e :: es) [] pos) X.env = (do
      let ov ← eval e0 X.env
      standAt apos.atName
      let (f, first) ← holding [ov] (getMethod ov m pl)
      callWith pos f first (backTo pos (starEach (e :: es) X.env)) (backToKw pos (keywordEach [] X.env))) := by rfl) : Ev ρ X Γ (.Call (.Attribute e0 m apos) (e :: es) [] pos) s z := hz ▸ EvP.ev (ev_methF (pl := pl) F hr h0 ha hx hn hst hpl ht)
end
abbrev PriceOk (p : Option Int) : Prop := ∀ q, p = some q → 1 ≤ q ∧ q ≤ 1000000
abbrev C_S_check (Pg : Program) (Wd : World) (K : PySem.W.Frag) (mg : Str → Option Value) (Bh : Heap) : Prop := MCal Pg Wd K mg Bh (CS K) "_check" 1 ["self", "a", "b", "price", "at"] (spF (fCons (rSes (CS K)) (fCons rNat (fCons rNat (fCons rOpt (fOne rNat))))) rNon (fun x => Has x.1.links x.2.1 x.2.2.1 ∧ PriceOk x.2.2.2.1) (fun x y => y = ()))
set_option maxHeartbeats 2000000 in
theorem c_S_check {Pg : Program} {Wd : World} {K : PySem.W.Frag} {mg : Str → Option Value} {Bh : Heap} (T : Hd K mg)  : C_S_check Pg Wd K mg Bh := by
  obtain ⟨fd, F⟩ := T.f_S_check
  have S : FnScope ["self", "a", "b", "price", "at"] ["self", "a", "b", "price", "at"] (defScope sS_check) := ⟨rfl, rfl, rfl, by decide +kernel, rfl, by decide +kernel, by decide +kernel⟩
  refine Ov.Fn1.mcal (fnF_ok F S (F.bindsN fun _ _ _ _ _ _ us hl => match us, hl with | [_, _, _, _, _], _ => rfl) rfl (fun cdv Ar ou st0 Hh Ee hr bb De xx hpre hret hnon => ?_)) T.cls (T.meth 82)
  obtain ⟨S0, a, b, price, at_⟩ := xx
  refine ⟨_, (.cons (.cons (.cons (.cons .one)))), ?_⟩
  obtain ⟨h1, h2⟩ := hpre
  have h1 : Has S0.links a b := h1
  have h2 : PriceOk price := h2
  refine run_no (et_ninT (hu_of hr) (ev_tup (ef_cons (ev_pub 1) (ef_one (ev_pub 2)))) (ev_fld fr_links T.cls (T.noat 75) (ev_pub 0))) (by rw [h1]; rfl) ?_
  cases price with
  | none =>
    refine run_no (EvW.t (ew_and (u := true) (et_notN vn_opt (ev_pub 3)) (by intro h; cases h))) rfl ?_
    exact run_nil (hnon _ () rfl fun _ => rfl)
  | some q =>
    obtain ⟨q1, q2⟩ := h2 q rfl
    refine run_no (EvW.t (ew_and (et_notN vn_opt (ev_pub 3)) fun _ => ew_and1 (et_not (et_chain2 (ev_int (i := 1)) (Ev.unopt (ev_pub 3)) (ev_globI rfl T.i_MOST_PRICE))))) (by simp [q1, q2]) ?_
    exact run_nil (hnon _ () rfl fun _ => rfl)
abbrev C_S_set (Pg : Program) (Wd : World) (K : PySem.W.Frag) (mg : Str → Option Value) (Bh : Heap) : Prop := ∀ W : SesW, MCal Pg Wd K mg Bh (CS K) "_set" 1 ["self", "edits"] (spM (oSesW (CS K) W) (fOne (rLst rEdit)) (rLst rEdit) (fun S es => (∀ e ∈ es, Has S.links e.1 e.2.1) ∧ es.length ≤ 1000 ∧ S.links.length ≤ 100000) (fun S es z S' => z = (setEdits S.links es).1.reverse ∧ S' = { S with links := (setEdits S.links es).2 }))
set_option maxHeartbeats 2000000 in
theorem c_S_set {Pg : Program} {Wd : World} {K : PySem.W.Frag} {mg : Str → Option Value} {Bh : Heap} (T : Hd K mg)  : C_S_set Pg Wd K mg Bh := by
  obtain ⟨fd, F⟩ := T.f_S_set
  have S : FnScope ["self", "edits", "old", "a", "b", "price"] ["self", "edits"] (defScope sS_set) := ⟨rfl, rfl, rfl, by decide +kernel, rfl, by decide +kernel, by decide +kernel⟩
  intro W
  refine Ov.Fn1.mcal (fnM_ok F S (F.bindsN fun _ _ _ _ _ _ us hl => match us, hl with | [_, _], _ => rfl) rfl (fun cdv Ar ou st0 Hh Ee hr bb De v0 S0 xx hpre hret hnon => ?_)) T.cls (T.meth 83)
  obtain ⟨edits, rfl⟩ : ∃ y, y = xx := ⟨xx, rfl⟩
  refine ⟨_, .one, ?_⟩
  obtain ⟨h1, h2, h3⟩ := hpre
  have h1 : ∀ e ∈ edits, Has S0.links e.1 e.2.1 := h1
  refine run_asgN (o := oLst rEdit) 2 S.nd ev_nilL ?_
  refine run_for rfl (ev_pub 1) (fun i => [.slf v0 (oSesW (CS K) W) { S0 with links := (setEdits S0.links (edits.take i)).2 }, .pub (rLst rEdit) edits, .own (oLst rEdit) (setEdits S0.links (edits.take i)).1, .un, .un, .un]) (Le.refl _) (fun b1 hb1 i e hi => ?_) ?_
  · have hh := setEdits_has (es := edits.take i) (h1 e (List.mem_of_getElem? hi))
    have hl := setEdits_len (es := edits.take i) (s := ([], S0.links))
    rw [List.length_take] at hl
    have hl : (setEdits S0.links (edits.take i)).1.length = 0 + min i edits.length ∧ (setEdits S0.links (edits.take i)).2.length ≤ S0.links.length + min i edits.length := hl
    rw [setEdits_take hi]
    generalize setEdits S0.links (edits.take i) = s at hh hl
    obtain ⟨old, L⟩ := s
    obtain ⟨a, c, p⟩ := e
    have hh : Has L a c := hh
    have hl : old.length = 0 + min i edits.length ∧ L.length ≤ S0.links.length + min i edits.length := hl
    obtain ⟨x, hx⟩ := Option.isSome_iff_exists.mp hh
    refine ⟨_, _, tg_tup rfl (tgs_cons (tg_name 3 S.nd) (tgs_cons (tg_name 4 S.nd) (tgs_one (tg_name 5 S.nd)))), ?_⟩
    have es : setEdit (old, L) (a, c, p) = (old ++ [(a, c, x)], tput L (a, c) p) := by unfold setEdit; rw [gp_of hx]
    rw [es]
    refine run_app 2 rfl (ev_tup (ef_cons (ev_pub 3) (ef_cons (ev_pub 4) (ef_one (Ev.flat fOpt (ev_dT (ρ := false) (hu_of hr) (ev_fld fr_links T.cls (T.noat 75) (ev_peek (o := oSesW (CS K) W) 0 rfl peek_slf)) (ev_tup (ef_cons (ev_pub 3) (ef_one (ev_pub 4)))) hx)))))) (sz_le (by omega)) ?_
    refine run_fldSet 0 ft_links (sesOW _ W) T.cls (T.noat 75) (hu_of hr) rfl hold_slf (ev_pub 5) (ev_tup (ef_cons (ev_pub 3) (ef_one (ev_pub 4)))) (sz_le (show L.length ≤ _ by omega)) ?_
    exact run_last (To.le (.cons .same (.cons .same (.cons .same (.cons .un (.cons .un (.cons .un .nil)))))) fun _ _ g => g)
  · rw [List.take_length]
    refine run_pub 2 rfl ?_
    exact run_ret (EvN.pub (ev_rev (ev_pub 2))) (hret _ _ _ rfl ⟨rfl, rfl⟩)
abbrev C_S_is_due (Pg : Program) (Wd : World) (K : PySem.W.Frag) (mg : Str → Option Value) (Bh : Heap) : Prop := MCal Pg Wd K mg Bh (CS K) "_is_due" 1 ["self", "way", "places", "edited", "changed"] (spF (fCons (rSes (CS K)) (fCons rPP (fCons (rLst rNat) (fCons (rLst rPP) (fOne (rTab rBl)))))) rBl (fun x => x.2.2.1.length ≤ 100000) (fun x y => y = isDue x.2.1 x.2.2.1 x.2.2.2.1 x.2.2.2.2))
set_option maxHeartbeats 2000000 in
theorem c_S_is_due {Pg : Program} {Wd : World} {K : PySem.W.Frag} {mg : Str → Option Value} {Bh : Heap} (T : Hd K mg)  : C_S_is_due Pg Wd K mg Bh := by
  obtain ⟨fd, F⟩ := T.f_S_is_due
  have S : FnScope ["self", "way", "places", "edited", "changed", "x", "y", "w"] ["self", "way", "places", "edited", "changed"] (defScope sS_is_due) := ⟨rfl, rfl, rfl, by decide +kernel, rfl, by decide +kernel, by decide +kernel⟩
  refine Ov.Fn1.mcal (fnF_ok F S (F.bindsN fun _ _ _ _ _ _ us hl => match us, hl with | [_, _, _, _, _], _ => rfl) rfl (fun cdv Ar ou st0 Hh Ee hr bb De xx hpre hret hnon => ?_)) T.cls (T.meth 84)
  obtain ⟨S0, way, places, edited, changed⟩ := xx
  refine ⟨_, (.cons (.cons (.cons (.cons .one)))), ?_⟩
  have hl : places.length ≤ 100000 := hpre
  refine run_unp (ev_pub 1) (tg_tup rfl (tgs_cons (tg_name 5 S.nd) (tgs_one (tg_name 6 S.nd)))) ?_
  refine run_ret (x := isDue way places edited changed) (ev_or (ev_inD (dTup (dCons dNat (dOne dNat))) (hu65 hr) (ev_pub 1) (ev_pub 3)) (fun _ => ev_one (ev_any rfl T.b_any (EvN.pub (ρ := true) (ev_lc (lc_l (r := rBl) (s := rNat) (g := fun w => (tget changed (way.1, w)).isSome || (tget changed (w, way.2)).isSome) (Γt := fun w => [.pub (rSes (CS K)) S0, .pub rPP way, .pub (rLst rNat) places, .pub (rLst rPP) edited, .pub (rTab rBl) changed, .pub rNat way.1, .pub rNat way.2, .pub rNat w]) [("w", 7)] [7] rfl S.nd (Ev.l (ev_pub 2)) (sz_le (by omega)) (by show blkC ["self", "way", "places", "edited", "changed", "x", "y", "w"] (defScope sS_is_due) _ _ = true; decide +kernel) (fun t ht s0 H0 C cl fp0 => tg_name 7 S.nd) (fun t ht s0 H0 C cl fp0 => ?_)))))) ?_) (hret _ _ rfl)
  rotate_left
  · unfold isDue
    exact congrArg (· || _) (decide_eq_decide.mpr Iff.rfl)
  exact ev_or (ev_inTv (hu_of hr) (ev_tup (ef_cons (ev_pub 5) (ef_one (ev_pub 7)))) (ev_pub 4)) (fun _ => ev_one (ev_inTv (hu_of hr) (ev_tup (ef_cons (ev_pub 7) (ef_one (ev_pub 6)))) (ev_pub 4))) rfl
abbrev C_S_mend (Pg : Program) (Wd : World) (K : PySem.W.Frag) (mg : Str → Option Value) (Bh : Heap) : Prop := MCal Pg Wd K mg Bh (CS K) "_mend" 3 ["self", "edited"] (spM (oSes (CS K)) (fOne (rLst rPP)) (rLst rChange) (fun S ed => SesOk S) (fun S ed z S' => z = (mend S ed).changes ∧ S' = sesM S (mend S ed)))
set_option maxHeartbeats 2000000 in
theorem c_S_mend {Pg : Program} {Wd : World} {K : PySem.W.Frag} {mg : Str → Option Value} {Bh : Heap} (T : Hd K mg) (h_S_is_due : C_S_is_due Pg Wd K mg Bh) (h_best_way : C_best_way Pg Wd K mg Bh) : C_S_mend Pg Wd K mg Bh := by
  obtain ⟨fd, F⟩ := T.f_S_mend
  have S : FnScope ["self", "edited", "changed", "changes", "low", "high", "places", "way", "price", "middle"] ["self", "edited"] (defScope sS_mend) := ⟨rfl, rfl, rfl, by decide +kernel, rfl, by decide +kernel, by decide +kernel⟩
  refine Ov.Fn1.mcal (fnM_ok F S (F.bindsN fun _ _ _ _ _ _ us hl => match us, hl with | [_, _], _ => rfl) rfl (fun cdv Ar ou st0 Hh Ee hr bb De v0 S0 xx hpre hret hnon => ?_)) T.cls (T.meth 85)
  obtain ⟨edited, rfl⟩ : ∃ y, y = xx := ⟨xx, rfl⟩
  refine ⟨_, .one, ?_⟩
  have hS : SesOk S0 := hpre
  have hpl := hS.pl
  refine run_asgN 2 S.nd (ev_dicT (r := rBl)) ?_
  refine run_asgN (o := oLst rChange) 3 S.nd ev_nilL ?_
  refine run_fldNew 0 fl_looked T.cls (T.noat 81) rfl hold_slf ev_nilL ?_
  refine run_for rfl (ev_fldP 0 fp_pairs (sesO _) T.cls (T.noat 76) rfl peek_slf) (fun i => [.slf v0 (oSes (CS K)) (sesM S0 ((S0.pairs.take i).foldl (mendStep S0.links S0.lower edited) ⟨[], [], [], S0.prices, S0.middles⟩)), .pub (rLst rPP) edited, .own (oTab rBl) ((S0.pairs.take i).foldl (mendStep S0.links S0.lower edited) ⟨[], [], [], S0.prices, S0.middles⟩).changed, .own (oLst rChange) ((S0.pairs.take i).foldl (mendStep S0.links S0.lower edited) ⟨[], [], [], S0.prices, S0.middles⟩).changes, .un, .un, .un, .un, .un, .un]) (Le.refl _) (fun b1 hb1 i p hi => ?_) ?_
  · have hi : S0.pairs[i]? = some p := hi
    have hm := List.mem_of_getElem? hi
    have hM := mend_take hS edited i
    rw [take_foldl hi]
    generalize (S0.pairs.take i).foldl (mendStep S0.links S0.lower edited) ⟨[], [], [], S0.prices, S0.middles⟩ = m at hM
    obtain ⟨f, s⟩ := p
    obtain ⟨places, hpl⟩ := Option.isSome_iff_exists.mp (hS.low _ hm)
    have hw := hS.ws _ hm
    have hlow : lows S0.lower (f, s) = places := by unfold lows; rw [hpl]; rfl
    rw [hlow] at hw
    have hplen : places.length ≤ 100000 := hS.wl _ _ hpl
    have est : mendStep S0.links S0.lower edited m (f, s) = mendWay S0.links places edited (mendWay S0.links places edited m (f, s)) (s, f) := by unfold mendStep; rw [hpl]; rfl
    rw [est]
    refine ⟨_, _, tg_tup rfl (tgs_cons (tg_name 4 S.nd) (tgs_one (tg_name 5 S.nd))), ?_⟩
    refine run_asg 6 S.nd (ev_dT (ρ := true) (hu_of hr) (ev_fldP 0 fp_lower (sesO _) T.cls (T.noat 77) rfl peek_slf) (ev_tup (ef_cons (ev_pub 4) (ef_one (ev_pub 5)))) hpl) ?_
    refine run_forT rfl (ev_tupL (ei_cons (ev_tup (ef_cons (ev_pub 4) (ef_one (ev_pub 5)))) (ei_cons (ev_tup (ef_cons (ev_pub 5) (ef_one (ev_pub 4)))) ef_nil1))) (fun j => [.slf v0 (oSes (CS K)) (sesM S0 (([(f, s), (s, f)].take j).foldl (mendWay S0.links places edited) m)), .pub (rLst rPP) edited, .own (oTab rBl) (([(f, s), (s, f)].take j).foldl (mendWay S0.links places edited) m).changed, .own (oLst rChange) (([(f, s), (s, f)].take j).foldl (mendWay S0.links places edited) m).changes, .pub rNat f, .pub rNat s, .pub (rLst rNat) places, .un, .un, .un]) (Le.refl _) (fun b2 hb2 j q hj => ?_) ?_
    · have hh : MI S0.pairs 200001 (([(f, s), (s, f)].take j).foldl (mendWay S0.links places edited) m) ∧ ((q = (f, s)) ∨ q = (s, f)) := by
        match j, hj with
        | 0, hj => cases hj; exact ⟨hM.mono (by omega), .inl rfl⟩
        | 1, hj => cases hj; exact ⟨hM.way _ _ _ _, .inr rfl⟩
      rw [take_foldl hj]
      generalize ([(f, s), (s, f)].take j).foldl (mendWay S0.links places edited) m = m2 at hh
      obtain ⟨hM2, hq⟩ := hh
      have hkeys : (∀ w ∈ places, Has m2.prices q.1 w ∧ Has m2.prices w q.2) ∧ Has m2.prices q.1 q.2 := by
        rcases hq with rfl | rfl
        · exact ⟨fun w hwm => ⟨hM2.p2 _ (hw w hwm).1, hM2.p1 _ (hw w hwm).2⟩, hM2.p1 _ hm⟩
        · exact ⟨fun w hwm => ⟨hM2.p2 _ (hw w hwm).2, hM2.p1 _ (hw w hwm).1⟩, hM2.p2 _ hm⟩
      obtain ⟨hk1, hk2⟩ := hkeys
      obtain ⟨x, y⟩ := q
      obtain ⟨old, hold⟩ := Option.isSome_iff_exists.mp hk2
      have hold : tget m2.prices (x, y) = some old := hold
      have hgp := gp_of hold
      have h1 := hM2.lp
      have h2 := hM2.lm
      have h3 := hM2.ll
      have h4 := hM2.lc
      have h5 := hM2.lh
      refine ⟨_, _, tg_name 7 S.nd, ?_⟩
      refine run_if (t := isDue (x, y) places edited m2.changed) (et_val (Ev.flat (ρ := false) fBl ?_)) (fun h => ?_) (fun h => run_end ?_)
      · exact ev_methZ (sesM S0 m2) ((x, y), places, edited, m2.changed) h_S_is_due (hr.mono (by decide)) (ev_peek (o := oSes (CS K)) 0 rfl peek_slf) (ef_cons (ρ := false) (Ev.w (ev_pub 7)) (ef_cons (Ev.w (ev_pub 6)) (ef_cons (Ev.w (ev_pub 1)) (ef_one (ev_own (o := oTab rBl) 2))))) hplen
      · have h : isDue (x, y) places edited m2.changed = true := h
        have emw : mendWay S0.links places edited m2 (x, y) = ⟨if (bestWay S0.links m2.prices places x y).1 = old then m2.changed else tput m2.changed (x, y) true, if (bestWay S0.links m2.prices places x y).1 = old then m2.changes else m2.changes ++ [(x, y, old, (bestWay S0.links m2.prices places x y).1)], m2.looked ++ [(x, y)], tput m2.prices (x, y) (bestWay S0.links m2.prices places x y).1, tput m2.middles (x, y) (bestWay S0.links m2.prices places x y).2⟩ := by
          unfold mendWay
          rw [if_pos h]
          dsimp only
          rw [hgp]
        rw [emw]
        obtain ⟨pr, mid, hbw⟩ : ∃ pr mid, bestWay S0.links m2.prices places x y = (pr, mid) := ⟨_, _, rfl⟩
        rw [hbw]
        dsimp only
        refine run_fldApp 0 fl_looked (sesO _) T.cls (T.noat 81) rfl hold_slf (ev_pub 7) (sz_le (show m2.looked.length ≤ _ by omega)) ?_
        refine run_unp (x := (pr, mid)) (Ev.tup (ρ := false) ffSum ?_) (tg_tup rfl (tgs_cons (tg_name 8 S.nd) (tgs_one (tg_name 9 S.nd)))) ?_
        · exact ev_callZ (x := (S0.links, m2.prices, places, x, y)) h_best_way (hr.mono (by decide)) (ef_cons (ρ := false) (ev_fld (S := { sesM S0 m2 with looked := m2.looked ++ [(x, y)] }) fr_links T.cls (T.noat 75) (ev_peek (o := oSes (CS K)) 0 rfl peek_slf)) (ef_cons (ev_fld (S := { sesM S0 m2 with looked := m2.looked ++ [(x, y)] }) fr_prices T.cls (T.noat 78) (ev_peek (o := oSes (CS K)) 0 rfl peek_slf)) (ef_cons (Ev.w (ev_pub 6)) (ef_cons (Ev.w (ev_ixT (ρ := true) (ev_pub 7) (ev_nat (i := 0)) .hd)) (ef_one (Ev.w (ev_ixT (ρ := true) (ev_pub 7) (ev_nat (i := 1)) (.tl .one)))))))) hk1 (hz := hbw)
        refine run_if (et_ne sc_opt (ev_pub 8) (Ev.flat fOpt (ev_dT (ρ := false) (hu_of hr) (ev_fld fr_prices T.cls (T.noat 78) (ev_peek (o := oSes (CS K)) 0 rfl peek_slf)) (ev_pub 7) hold))) (fun h => ?_) (fun h => run_end ?_)
        · have h : ¬ pr = old := by simpa using h
          simp only [if_neg h]
          refine run_setT 2 (hu_of hr) rfl (ev_bl (i := true)) (ev_pub 7) (sz_le (by omega)) ?_
          refine run_app 3 rfl (ev_tup (ef_cons (ev_ixT (ev_pub 7) (ev_nat (i := 0)) .hd) (ef_cons (ev_ixT (ev_pub 7) (ev_nat (i := 1)) (.tl .one)) (ef_cons (Ev.flat fOpt (ev_dT (ρ := false) (hu_of hr) (ev_fld fr_prices T.cls (T.noat 78) (ev_peek (o := oSes (CS K)) 0 rfl peek_slf)) (ev_pub 7) hold)) (ef_one (ev_pub 8)))))) (sz_le (by omega)) ?_
          refine run_end ?_
          refine run_fldSet 0 ft_prices (sesO _) T.cls (T.noat 78) (hu_of hr) rfl hold_slf (ev_pub 8) (ev_pub 7) (sz_le (show m2.prices.length ≤ _ by omega)) ?_
          refine run_fldSet 0 ft_middles (sesO _) T.cls (T.noat 79) (hu_of hr) rfl hold_slf (ev_pub 9) (ev_pub 7) (sz_le (show m2.middles.length ≤ _ by omega)) ?_
          exact run_end (run_last (To.le (.cons .same (.cons .same (.cons .same (.cons .same (.cons .same (.cons .same (.cons .same (.cons .un (.cons .un (.cons .un .nil)))))))))) fun _ _ g => g))
        · have h : pr = old := by simpa using h
          simp only [if_pos h]
          refine run_fldSet 0 ft_prices (sesO _) T.cls (T.noat 78) (hu_of hr) rfl hold_slf (ev_pub 8) (ev_pub 7) (sz_le (show m2.prices.length ≤ _ by omega)) ?_
          refine run_fldSet 0 ft_middles (sesO _) T.cls (T.noat 79) (hu_of hr) rfl hold_slf (ev_pub 9) (ev_pub 7) (sz_le (show m2.middles.length ≤ _ by omega)) ?_
          exact run_end (run_last (To.le (.cons .same (.cons .same (.cons .same (.cons .same (.cons .same (.cons .same (.cons .same (.cons .un (.cons .un (.cons .un .nil)))))))))) fun _ _ g => g))
      · have h : isDue (x, y) places edited m2.changed = false := h
        have emw : mendWay S0.links places edited m2 (x, y) = m2 := by
          unfold mendWay
          rw [if_neg (by rw [h]; decide)]
        rw [emw]
        exact run_last (To.le (.cons .same (.cons .same (.cons .same (.cons .same (.cons .same (.cons .same (.cons .same (.cons .un (.cons .un (.cons .un .nil)))))))))) fun _ _ g => g)
    · exact run_last (To.le (.cons .same (.cons .same (.cons .same (.cons .same (.cons .un (.cons .un (.cons .un (.cons .un (.cons .un (.cons .un .nil)))))))))) fun _ _ g => g)
  · rw [List.take_length]
    refine run_pub 3 rfl ?_
    exact run_ret (ev_pub 3) (hret _ _ _ rfl ⟨rfl, rfl⟩)
end Ov

/-! ## F8 -/
namespace Ov
open PySem PySem.Spec PyProof.Rows L2 T
abbrev C_S_edit_all (Pg : Program) (Wd : World) (K : PySem.W.Frag) (mg : Str → Option Value) (Bh : Heap) : Prop := MCal Pg Wd K mg Bh (CS K) "edit_all" 4 ["self", "edits"] (spM (oSes (CS K)) (fOne (rLst rEdit)) (rLst rChange) (fun S es => EdOk S es ∧ ∀ e ∈ es, PriceOk e.2.2) (fun S es z S' => z = S.editTold es ∧ S' = S.editAll es))
set_option maxHeartbeats 2000000 in
theorem c_S_edit_all {Pg : Program} {Wd : World} {K : PySem.W.Frag} {mg : Str → Option Value} {Bh : Heap} (T : Hd K mg) (h_S_check : C_S_check Pg Wd K mg Bh) (h_S_set : C_S_set Pg Wd K mg Bh) (h_S_mend : C_S_mend Pg Wd K mg Bh) : C_S_edit_all Pg Wd K mg Bh := by
  obtain ⟨fd, F⟩ := T.f_S_edit_all
  have S : FnScope ["self", "edits", "k", "a", "b", "price", "_"] ["self", "edits"] (defScope sS_edit_all) := ⟨rfl, rfl, rfl, by decide +kernel, rfl, by decide +kernel, by decide +kernel⟩
  refine Ov.Fn1.mcal (fnM_ok F S (F.bindsN fun _ _ _ _ _ _ us hl => match us, hl with | [_, _], _ => rfl) rfl (fun cdv Ar ou st0 Hh Ee hr bb De v0 S0 xx hpre hret hnon => ?_)) T.cls (T.meth 87)
  obtain ⟨edits, rfl⟩ : ∃ y, y = xx := ⟨xx, rfl⟩
  refine ⟨_, .one, ?_⟩
  obtain ⟨hE, hP⟩ := hpre
  have hE : EdOk S0 edits := hE
  have hn := hE.n
  have hh := hE.h
  refine run_forR rfl T.b_range (ev_len T.b_len (ev_pub 1)) (by omega) (fun i => [.slf v0 (oSes (CS K)) S0, .pub (rLst rEdit) edits, .un, .un, .un, .un, .un]) (Le.refl _) (fun b1 hb i hi => ?_) ?_
  · obtain ⟨e, he⟩ : ∃ e, edits[i]? = some e := ⟨_, List.getElem?_eq_getElem hi⟩
    have hm := List.mem_of_getElem? he
    have hk := hE.ks e hm
    have hp := hP e hm
    obtain ⟨a, c, p⟩ := e
    refine ⟨_, _, tg_name 2 S.nd, ?_⟩
    refine run_unp (ev_ix (ev_pub 1) (ev_pub 2) he) (tg_tup rfl (tgs_cons (tg_name 3 S.nd) (tgs_cons (tg_name 4 S.nd) (tgs_one (tg_name 5 S.nd))))) ?_
    refine run_drop (r := rNon) (ρ := false) ((ev_methF (S := S0) (y := (a, c, p, i)) h_S_check (hr.mono (by decide)) (ev_peek (o := oSes (CS K)) 0 rfl peek_slf) (ef_cons (ρ := false) (Ev.w (ev_pub 3)) (ef_cons (Ev.w (ev_pub 4)) (ef_cons (Ev.w (ev_pub 5)) (ef_one (Ev.w (ev_pub 2)))))) ⟨hk, hp⟩)) ?_
    exact run_last (To.le (.cons .same (.cons .same (.cons .un (.cons .un (.cons .un (.cons .un (.cons .un .nil))))))) fun _ _ g => g)
  · refine run_sesW 0 rfl fun W => ?_
    refine run_histApp 0 T.cls (T.noat 80) rfl (em_meth 0 (sesOW _ W) (h_S_set W) (hr.mono (by decide)) rfl hold_slf (ef_one (ev_pub 1)) ⟨hE.ks, hn, hE.ses.lk⟩) (fun z Γ' h => ?_)
    obtain ⟨S1, ⟨rfl, rfl⟩, rfl⟩ := h
    refine ⟨_, rfl, sz_le (show S0.history.length ≤ _ by omega), ?_⟩
    refine run_sesU 0 rfl ?_
    refine run_retM (em_meth 0 (sesO _) h_S_mend (hr.mono (by decide)) rfl hold_slf (ef_one (EvN.pub (ev_lc (lc_l (r := rPP) (s := rEdit) (g := fun e => (e.1, e.2.1)) (Γt := fun e => [.slf v0 (oSes (CS K)) { S0 with links := (setEdits S0.links edits).2, history := S0.history ++ [(setEdits S0.links edits).1.reverse] }, .pub (rLst rEdit) edits, .un, .pub rNat e.1, .pub rNat e.2.1, .un, .pub rOpt e.2.2]) [("a", 3), ("b", 4), ("_", 6)] [3, 4, 6] rfl S.nd (Ev.l (ev_pub 1)) (sz_le (by omega)) (by show blkC ["self", "edits", "k", "a", "b", "price", "_"] (defScope sS_edit_all) _ _ = true; decide +kernel) (fun t ht s0 H0 C cl fp0 => tg_tup rfl (tgs_cons (tg_name 3 S.nd) (tgs_cons (tg_name 4 S.nd) (tgs_one (tg_name 6 S.nd))))) (fun t ht s0 H0 C cl fp0 => ev_tup (ef_cons (ev_pub 3) (ef_one (ev_pub 4)))))))) (hE.ses.links (by rw [setEdits_length hE.ks]; exact hE.ses.lk))) (fun z Γ' h => ?_)
    obtain ⟨S1, ⟨rfl, rfl⟩, rfl⟩ := h
    exact hret _ _ _ rfl ⟨rfl, rfl⟩
abbrev C_S_edit (Pg : Program) (Wd : World) (K : PySem.W.Frag) (mg : Str → Option Value) (Bh : Heap) : Prop := MCal Pg Wd K mg Bh (CS K) "edit" 5 ["self", "a", "b", "price"] (spM (oSes (CS K)) (fCons rNat (fCons rNat (fOne rOpt))) (rLst rChange) (fun S e => EdOk S [e] ∧ PriceOk e.2.2) (fun S e z S' => z = S.editTold [e] ∧ S' = S.editAll [e]))
set_option maxHeartbeats 2000000 in
theorem c_S_edit {Pg : Program} {Wd : World} {K : PySem.W.Frag} {mg : Str → Option Value} {Bh : Heap} (T : Hd K mg) (h_S_edit_all : C_S_edit_all Pg Wd K mg Bh) : C_S_edit Pg Wd K mg Bh := by
  obtain ⟨fd, F⟩ := T.f_S_edit
  have S : FnScope ["self", "a", "b", "price"] ["self", "a", "b", "price"] (defScope sS_edit) := ⟨rfl, rfl, rfl, by decide +kernel, rfl, by decide +kernel, by decide +kernel⟩
  refine Ov.Fn1.mcal (fnM_ok F S (F.bindsN fun _ _ _ _ _ _ us hl => match us, hl with | [_, _, _, _], _ => rfl) rfl (fun cdv Ar ou st0 Hh Ee hr bb De v0 S0 xx hpre hret hnon => ?_)) T.cls (T.meth 86)
  obtain ⟨a, b, price⟩ := xx
  refine ⟨_, (.cons (.cons .one)), ?_⟩
  obtain ⟨hE, hP⟩ := hpre
  refine run_retM (em_meth 0 (sesO _) h_S_edit_all (hr.mono (by decide)) rfl hold_slf (ef_one (EvN.pub (ev_lst (ei_cons (r := rEdit) (ev_tup (ef_cons (ev_pub 1) (ef_cons (ev_pub 2) (ef_one (ev_pub 3))))) ef_nil1) (by simp; exact sz_le' (by decide))))) ⟨hE, fun e m => ?_⟩) (fun z Γ' h => ?_)
  · obtain rfl : e = (a, b, price) := by simpa using m
    exact hP
  obtain ⟨S1, ⟨rfl, rfl⟩, rfl⟩ := h
  exact hret _ _ _ rfl ⟨rfl, rfl⟩
abbrev C_S_undo (Pg : Program) (Wd : World) (K : PySem.W.Frag) (mg : Str → Option Value) (Bh : Heap) : Prop := MCal Pg Wd K mg Bh (CS K) "undo" 4 ["self"] (spM (oSes (CS K)) fNil (rLst rChange) (fun S _ => (∃ last, S.history.getLast? = some last) ∧ EdOk S S.lastEdits) (fun S _ z S' => z = S.undoTold ∧ S' = S.undone))
set_option maxHeartbeats 2000000 in
theorem c_S_undo {Pg : Program} {Wd : World} {K : PySem.W.Frag} {mg : Str → Option Value} {Bh : Heap} (T : Hd K mg) (h_S_set : C_S_set Pg Wd K mg Bh) (h_S_mend : C_S_mend Pg Wd K mg Bh) : C_S_undo Pg Wd K mg Bh := by
  obtain ⟨fd, F⟩ := T.f_S_undo
  have S : FnScope ["self", "edits", "a", "b", "_"] ["self"] (defScope sS_undo) := ⟨rfl, rfl, rfl, by decide +kernel, rfl, by decide +kernel, by decide +kernel⟩
  refine Ov.Fn1.mcal (fnM_ok F S (F.bindsN fun _ _ _ _ _ _ us hl => match us, hl with | [_], _ => rfl) rfl (fun cdv Ar ou st0 Hh Ee hr bb De v0 S0 xx hpre hret hnon => ?_)) T.cls (T.meth 88)
  refine ⟨_, .nil, ?_⟩
  obtain ⟨⟨last, hl⟩, hE⟩ := hpre
  have hle : S0.lastEdits = last := by
    unfold Ses.lastEdits
    rw [List.getLastD_eq_getLast?, hl]; rfl
  have hun : S0.undone = sesM { S0 with links := (setEdits S0.links last).2, history := S0.history.dropLast } (mend { S0 with links := (setEdits S0.links last).2, history := S0.history.dropLast } (editsAt last)) := by
    unfold Ses.undone; rw [hle]; rfl
  have hto : S0.undoTold = (mend { S0 with links := (setEdits S0.links last).2, history := S0.history.dropLast } (editsAt last)).changes := by
    unfold Ses.undoTold; rw [hle]
  rw [hle] at hE
  have hn := hE.n
  have hne : S0.history.length ≠ 0 := fun z => by
    rw [List.length_eq_zero_iff.mp z] at hl; cases hl
  refine run_no (et_eq sc_nat (ev_len T.b_len (ev_fld fr_history T.cls (T.noat 80) (ev_peek (o := oSes (CS K)) 0 rfl peek_slf))) (ev_nat (i := 0))) (by simpa using hne) ?_
  refine run_asgM 1 S.nd (em_pop 0 (sesO _) T.cls (T.noat 80) rfl hold_slf hl) (fun z Γ' h => ?_)
  obtain ⟨rfl, rfl⟩ := h
  refine run_sesW (S := { S0 with history := S0.history.dropLast }) 0 rfl fun W => ?_
  refine run_dropM (em_meth 0 (sesOW _ W) (h_S_set W) (hr.mono (by decide)) rfl hold_slf (ef_one (ev_pub 1)) ⟨hE.ks, hn, hE.ses.lk⟩) (fun z Γ' h => ?_)
  obtain ⟨S1, ⟨rfl, rfl⟩, rfl⟩ := h
  refine run_sesU 0 rfl ?_
  refine run_retM (em_meth 0 (sesO _) h_S_mend (hr.mono (by decide)) rfl hold_slf (ef_one (EvN.pub (ev_lc (lc_l (r := rPP) (s := rEdit) (g := fun e => (e.1, e.2.1)) (Γt := fun e => [.slf v0 (oSes (CS K)) { S0 with links := (setEdits S0.links z).2, history := S0.history.dropLast }, .pub (rLst rEdit) z, .pub rNat e.1, .pub rNat e.2.1, .pub rOpt e.2.2]) [("a", 2), ("b", 3), ("_", 4)] [2, 3, 4] rfl S.nd (Ev.l (ev_pub 1)) (sz_le (by omega)) (by show blkC ["self", "edits", "a", "b", "_"] (defScope sS_undo) _ _ = true; decide +kernel) (fun t ht s0 H0 C cl fp0 => tg_tup rfl (tgs_cons (tg_name 2 S.nd) (tgs_cons (tg_name 3 S.nd) (tgs_one (tg_name 4 S.nd))))) (fun t ht s0 H0 C cl fp0 => ev_tup (ef_cons (ev_pub 2) (ef_one (ev_pub 3)))))))) (hE.ses.links (by rw [setEdits_length hE.ks]; exact hE.ses.lk))) (fun z Γ' h => ?_)
  obtain ⟨S1, ⟨rfl, rfl⟩, rfl⟩ := h
  exact hret _ _ _ rfl ⟨hto.symm, hun.symm⟩
abbrev C_S_net (Pg : Program) (Wd : World) (K : PySem.W.Frag) (mg : Str → Option Value) (Bh : Heap) : Prop := MCal Pg Wd K mg Bh (CS K) "net" 1 ["self"] (spR (oSes (CS K)) fNil rNet (fun S _ => NetS S) (fun S _ z => z = S.netL))
set_option maxHeartbeats 2000000 in
theorem c_S_net {Pg : Program} {Wd : World} {K : PySem.W.Frag} {mg : Str → Option Value} {Bh : Heap} (T : Hd K mg)  : C_S_net Pg Wd K mg Bh := by
  obtain ⟨fd, F⟩ := T.f_S_net
  have S : FnScope ["self", "links", "a", "b"] ["self"] (defScope sS_net) := ⟨rfl, rfl, rfl, by decide +kernel, rfl, by decide +kernel, by decide +kernel⟩
  refine Ov.Fn1.mcal (fnR_ok F S (F.bindsN fun _ _ _ _ _ _ us hl => match us, hl with | [_], _ => rfl) rfl (fun cdv Ar ou st0 Hh Ee hr bb De v0 S0 xx hpre hret hnon => ?_)) T.cls (T.meth 89)
  refine ⟨_, .nil, ?_⟩
  have hN : NetS S0 := hpre
  have hl := hN.l
  have hsl : (sortP (S0.links.map (·.1))).length = S0.links.length := by unfold sortP; rw [List.length_mergeSort, List.length_map]
  have hmem : ∀ x, x ∈ sortP (S0.links.map (·.1)) → x ∈ S0.links.map (·.1) := fun x m => (List.mergeSort_perm _ _).mem_iff.mp m
  refine run_asgLc 1 (lc_kf (r := rLink) (f := fun p => decide (p.1 < p.2)) (g := fun p => (p.1, p.2, gp S0.links p.1 p.2, gp S0.links p.2 p.1)) (Γt := fun p => [.rd v0 (oSes (CS K)) S0, .un, .pub rNat p.1, .pub rNat p.2]) [("a", 2), ("b", 3)] [2, 3] rfl S.nd (ev_sortT (ρ := false) rfl T.b_sorted (ev_fld fr_links T.cls (T.noat 75) (ev_peek (o := oSes (CS K)) 0 rfl peek_rd)) (sz_le' (by omega))) (sz_le (by rw [hsl]; omega)) (by show blkC ["self", "links", "a", "b"] (defScope sS_net) _ _ = true; decide +kernel) (fun t ht s0 H0 C cl fp0 => tgh_two rfl (tgs_cons (tg_name 2 S.nd) (tgs_one (tg_name 3 S.nd)))) (fun t ht s0 H0 C cl fp0 => et_ltN (ev_pub 2) (ev_pub 3)) (fun t ht hf s0 H0 C cl fp0 => ?_)) ?_
  · obtain ⟨k1, k2⟩ := hN.ks _ (hmem _ ht)
    obtain ⟨x1, e1⟩ := Option.isSome_iff_exists.mp k1
    obtain ⟨x2, e2⟩ := Option.isSome_iff_exists.mp k2
    have g1 := gp_of e1
    have g2 := gp_of e2
    rw [g1, g2]
    exact ev_tup (ef_cons (ev_pub 2) (ef_cons (ev_pub 3) (ef_cons (Ev.flat fOpt (ev_dT (ρ := false) (hu_of hr) (ev_fld fr_links T.cls (T.noat 75) (ev_peek (o := oSes (CS K)) 0 rfl peek_rd)) (ev_tup (ef_cons (ev_pub 2) (ef_one (ev_pub 3)))) e1)) (ef_one (Ev.flat fOpt (ev_dT (ρ := false) (hu_of hr) (ev_fld fr_links T.cls (T.noat 75) (ev_peek (o := oSes (CS K)) 0 rfl peek_rd)) (ev_tup (ef_cons (ev_pub 3) (ef_one (ev_pub 2)))) e2))))))
  · refine run_pub 1 rfl ?_
    exact run_ret (ev_tup (ef_cons (ev_fldP 0 fp_count (sesO _) T.cls (T.noat 73) rfl peek_rd) (ef_one (ev_pub 1)))) (hret _ _ rfl)
abbrev C_S_filling (Pg : Program) (Wd : World) (K : PySem.W.Frag) (mg : Str → Option Value) (Bh : Heap) : Prop := MCal Pg Wd K mg Bh (CS K) "filling" 2 ["self"] (spR (oSes (CS K)) fNil (rLst rRow) (fun S _ => SesOk S) (fun S _ z => z = S.fillingL))
set_option maxHeartbeats 2000000 in
theorem c_S_filling {Pg : Program} {Wd : World} {K : PySem.W.Frag} {mg : Str → Option Value} {Bh : Heap} (T : Hd K mg) (h_row_of : C_row_of Pg Wd K mg Bh) : C_S_filling Pg Wd K mg Bh := by
  obtain ⟨fd, F⟩ := T.f_S_filling
  have S : FnScope ["self", "pair"] ["self"] (defScope sS_filling) := ⟨rfl, rfl, rfl, by decide +kernel, rfl, by decide +kernel, by decide +kernel⟩
  refine Ov.Fn1.mcal (fnR_ok F S (F.bindsN fun _ _ _ _ _ _ us hl => match us, hl with | [_], _ => rfl) rfl (fun cdv Ar ou st0 Hh Ee hr bb De v0 S0 xx hpre hret hnon => ?_)) T.cls (T.meth 90)
  refine ⟨_, .nil, ?_⟩
  have hS : SesOk S0 := hpre
  have hl := hS.pl
  refine run_ret (EvN.pub (ev_lc (lc_l (r := rRow) (s := rPP) (g := rowOf S0.prices S0.middles) (Γt := fun q => [.rd v0 (oSes (CS K)) S0, .pub rPP q]) [("pair", 1)] [1] rfl S.nd (Ev.l (ev_fldP 0 fp_pairs (sesO _) T.cls (T.noat 76) rfl peek_rd)) (sz_le (by omega)) (by show blkC ["self", "pair"] (defScope sS_filling) _ _ = true; decide +kernel) (fun t ht s0 H0 C cl fp0 => tg_name 1 S.nd) (fun t ht s0 H0 C cl fp0 => ?_)))) (hret _ _ rfl)
  exact Ev.tup (ρ := false) ffRow (ev_callZ (x := (t, S0.prices, S0.middles)) h_row_of (hr.mono (by decide)) (ef_cons (ρ := false) (Ev.w (ev_pub 1)) (ef_cons (ev_fld fr_prices T.cls (T.noat 78) (ev_peek (o := oSes (CS K)) 0 rfl peek_rd)) (ef_one (ev_fld fr_middles T.cls (T.noat 79) (ev_peek (o := oSes (CS K)) 0 rfl peek_rd))))) ⟨hS.p1 t ht, hS.p2 t ht, hS.m1 t ht, hS.m2 t ht⟩)
end Ov

/-! ## F9 -/
namespace Ov
open PySem PySem.Spec PyProof.Rows L2 T

abbrev C_S_init (Pg : Program) (Wd : World) (K : PySem.W.Frag) (mg : Str → Option Value) (Bh : Heap) : Prop := Fn1 Pg Wd K mg Bh (He.ma K (CS K) "__init__") 6 ["self", "net", "order"] (spI (CS K) (fCons rNet (fOne (rLst rNat))) (fun x => FillOk x.1 x.2) (fun x S => S = sesNew x.1 x.2))
set_option maxHeartbeats 4000000 in
theorem c_S_init {Pg : Program} {Wd : World} {K : PySem.W.Frag} {mg : Str → Option Value} {Bh : Heap} (T : Hd K mg) (h_fill : C_fill Pg Wd K mg Bh) (h_link_prices : C_link_prices Pg Wd K mg Bh) (h_lower_places : C_lower_places Pg Wd K mg Bh) : C_S_init Pg Wd K mg Bh := by
  obtain ⟨fd, F⟩ := T.f_S_init
  have S : FnScope ["self", "net", "order", "rows", "low", "high", "up", "down", "up_middle", "down_middle", "row", "#o", "#l", "#r", "#w", "#p", "#m", "#h", "#k"] ["self", "net", "order"] (defScope sS_init) := ⟨rfl, rfl, rfl, by decide +kernel, rfl, by decide +kernel, by decide +kernel⟩
  refine fnI_ok F S (F.bindsN fun _ _ _ _ _ _ us hl => match us, hl with | [_, _, _], _ => rfl) rfl (fun cdv Ar ou st0 Hh Ee hr bb De v0 xx hpre hret => ?_)
  obtain ⟨⟨n, ls⟩, order⟩ := xx
  have hF : FillOk (n, ls) order := hpre
  have hN := hF.net
  have ho := hF.ord
  have ho' := hF.ord'
  have hT := tri_ok hN ho hF.n
  have hn : n ≤ 200 := hF.n
  have hfl := pairs_len hN ho
  have hfl : (pairsL (n, ls) order).length ≤ n * n := hfl
  have hnn : n * n ≤ 200 * 200 := Nat.mul_le_mul hn hn
  have hrl : (fillL (n, ls) order).length = (pairsL (n, ls) order).length := by rw [← fill_pairs, List.length_map]
  refine ⟨_, .cons .one, ?_⟩
  refine run_asg 3 S.nd (ev_callE h_fill (hr.mono (by decide)) (ef_cons (ev_pub 1) (ef_one (ev_pub 2))) hF) ?_
  refine run_rawI 0 T.cls (T.noat 73) rfl (ev_ixT (ev_pub 1) (ev_nat (i := 0)) .hd) (show (0 : Nat) < 1000 by decide) ?_
  refine run_rawP 0 11 T.cls (T.noat 74) rfl (EvN.pub (ev_listL T.b_list (ev_pub 2))) (show (1 : Nat) < 1000 by decide) (by decide) rfl (fun wo => ?_)
  refine run_rawN 0 12 T.cls (T.noat 75) rfl (ev_callN h_link_prices (hr.mono (by decide)) (ef_one (ev_pub 1)) hN.l) (show (2 : Nat) < 1000 by decide) (by decide) (fun wl => ?_)
  refine run_rawP 0 13 T.cls (T.noat 76) rfl (EvN.pub (ev_lc (lc_l (r := rPP) (s := rRow) (g := fun r => (r.1, r.2.1)) (Γt := fun r => [.slf v0 (oRaw (CS K)) [("_count", .int n), ("_order", wo), ("_links", wl)], .pub rNet (n, ls), .pub (rLst rNat) order, .pub (rLst rRow) (fillL (n, ls) order), .un, .un, .un, .un, .un, .un, .pub rRow r, .gpb wo (rLst rNat) order, .gho wl (oTab rOpt) (linkPrices ls), .un, .un, .un, .un, .un, .un]) [("row", 10)] [10] rfl S.nd (Ev.l (ev_pub 3)) (sz_le (show (fillL (n, ls) order).length ≤ _ by omega)) (by show blkC ["self", "net", "order", "rows", "low", "high", "up", "down", "up_middle", "down_middle", "row", "#o", "#l", "#r", "#w", "#p", "#m", "#h", "#k"] (defScope sS_init) _ _ = true; decide +kernel) (fun t ht s0 H0 C cl fp0 => tg_name 10 S.nd) (fun t ht s0 H0 C cl fp0 => ev_two2 (ev_pub 10))))) (show (3 : Nat) < 1000 by decide) (by decide) rfl (fun wr => ?_)
  refine run_rawP 0 14 T.cls (T.noat 77) rfl (ev_callE h_lower_places (hr.mono (by decide)) (ef_cons (ev_pub 3) (ef_one (ev_pub 2))) ⟨ho', by rw [show ((fillL (n, ls) order, order).1.map fun r => (r.1, r.2.1)) = pairsL (n, ls) order from fill_pairs _ _]; exact hT⟩) (show (4 : Nat) < 1000 by decide) (by decide) rfl (fun ww => ?_)
  refine run_rawN 0 15 T.cls (T.noat 78) rfl (ev_dicT (r := rOpt)) (show (5 : Nat) < 1000 by decide) (by decide) (fun wp => ?_)
  refine run_rawN 0 16 T.cls (T.noat 79) rfl (ev_dicT (r := rOpN)) (show (6 : Nat) < 1000 by decide) (by decide) (fun wm => ?_)
  refine run_for rfl (ev_pub 3) (fun i => [.slf v0 (oRaw (CS K)) [("_count", .int n), ("_order", wo), ("_links", wl), ("_pairs", wr), ("_lower", ww), ("_prices", wp), ("_middles", wm)], .pub rNet (n, ls), .pub (rLst rNat) order, .pub (rLst rRow) (fillL (n, ls) order), .un, .un, .un, .un, .un, .un, .un, .gpb wo (rLst rNat) order, .gho wl (oTab rOpt) (linkPrices ls), .gpb wr (rLst rPP) ((fillL (n, ls) order).map fun r => (r.1, r.2.1)), .gpb ww (rTab (rLst rNat)) (trianglesL ((fillL (n, ls) order).map fun r => (r.1, r.2.1)) order), .gho wp (oTab rOpt) (rowsPM ((fillL (n, ls) order).take i)).1, .gho wm (oTab rOpN) (rowsPM ((fillL (n, ls) order).take i)).2, .un, .un]) (Le.refl _) (fun b1 hb1 i r hi => ?_) ?_
  · have hlen := rowsPM_len ((fillL (n, ls) order).take i) ([], [])
    rw [List.length_take] at hlen
    have hlen : (rowsPM ((fillL (n, ls) order).take i)).1.length ≤ 0 + 2 * min i (fillL (n, ls) order).length ∧ (rowsPM ((fillL (n, ls) order).take i)).2.length ≤ 0 + 2 * min i (fillL (n, ls) order).length := hlen
    have est : rowsPM ((fillL (n, ls) order).take (i + 1)) = putRow (rowsPM ((fillL (n, ls) order).take i)) r := by unfold rowsPM; rw [take_foldl hi]
    rw [est]
    generalize rowsPM ((fillL (n, ls) order).take i) = st at hlen
    obtain ⟨P, M⟩ := st
    obtain ⟨l1, l2⟩ := hlen
    have l1 : P.length ≤ 0 + 2 * min i (fillL (n, ls) order).length := l1
    have l2 : M.length ≤ 0 + 2 * min i (fillL (n, ls) order).length := l2
    obtain ⟨lo, hg, up, dn, um, dm⟩ := r
    have l3 := tput_length P (lo, hg) up
    have l4 := tput_length M (lo, hg) um
    refine ⟨_, _, tg_tup rfl (tgs_cons (tg_name 4 S.nd) (tgs_cons (tg_name 5 S.nd) (tgs_cons (tg_name 6 S.nd) (tgs_cons (tg_name 7 S.nd) (tgs_cons (tg_name 8 S.nd) (tgs_one (tg_name 9 S.nd))))))), ?_⟩
    refine run_rawSet 0 15 T.cls (T.noat 78) (hu_of hr) rfl rfl rfl (ev_pub 6) (ev_tup (ef_cons (ev_pub 4) (ef_one (ev_pub 5)))) (sz_le (by omega)) ?_
    refine run_rawSet 0 15 T.cls (T.noat 78) (hu_of hr) rfl rfl rfl (ev_pub 7) (ev_tup (ef_cons (ev_pub 5) (ef_one (ev_pub 4)))) (sz_le (show (tput P (lo, hg) up).length ≤ _ by omega)) ?_
    refine run_rawSet 0 16 T.cls (T.noat 79) (hu_of hr) rfl rfl rfl (ev_pub 8) (ev_tup (ef_cons (ev_pub 4) (ef_one (ev_pub 5)))) (sz_le (by omega)) ?_
    refine run_rawSet 0 16 T.cls (T.noat 79) (hu_of hr) rfl rfl rfl (ev_pub 9) (ev_tup (ef_cons (ev_pub 5) (ef_one (ev_pub 4)))) (sz_le (show (tput M (lo, hg) um).length ≤ _ by omega)) ?_
    exact run_last (To.le (.cons .same (.cons .same (.cons .same (.cons .same (.cons .un (.cons .un (.cons .un (.cons .un (.cons .un (.cons .un (.cons .un (.cons .same (.cons .same (.cons .same (.cons .same (.cons .same (.cons .same (.cons .same (.cons .same .nil))))))))))))))))))) fun _ _ g => g)
  · rw [List.take_length]
    refine run_rawN (o := oLst (rLst rEdit)) 0 17 T.cls (T.noat 80) rfl ev_nilL (show (7 : Nat) < 1000 by decide) (by decide) (fun wh => ?_)
    refine run_rawN (o := oLst rPP) 0 18 T.cls (T.noat 81) rfl ev_nilL (show (8 : Nat) < 1000 by decide) (by decide) (fun wk => ?_)
    refine run_nil (run_rawJoin (S := sesNew (n, ls) order) 11 12 13 14 15 16 17 18 rfl rfl rfl rfl rfl rfl rfl rfl rfl (by decide) ?_)
    exact hret _ _ rfl rfl
end Ov

/-! ## F10 -/
namespace Ov
open PySem PySem.Spec PyProof.Rows L2 T

section
variable {δ : Type} {X : Cx} {Γ : List B} {pos apos : Pos} {C : Addr} {S : Ses} {m : Str} {k0 : Nat} {ps : List Str}
theorem ev_methR0E {o : Own Ses} {s : Rep δ} {pre : Ses → Unit → Prop} {g' : Ses → δ} {zz : δ} {sb : B} {n : Str} {p : Pos} {pl : Sem Bool} (i : Nat) (S : Ses) (so : SesO C o) (F : MCal X.prog X.w X.K X.mg X.base C m k0 ps (spR o fNil s pre (fun S _ z => z = g' S))) (hr : Room k0 X.A) (g : Γ[i]? = some sb) (pk : Peek sb o S) (hx : pre S ()) (hz : g' S = zz := by rfl) (hn : ∀ W c, (sesF W c).lookup m = none := by intro _ _; rfl)
    (hN : X.N[i]? = some n := by rfl) (hv : Vis X.env.scope n := by first | exact Or.inl rfl | exact Or.inr (Or.inl rfl) | exact Or.inr (Or.inr rfl)) (hd : (n == ("__debug__" : Str)) = false := by decide) (hcd : (n == ("__classdict__" : Str)) = false := by decide)
    (ht : eval (.Call (.Attribute (.Name n p) m apos) [] [] pos) X.env = (do
      let ov ← eval (.Name n p) X.env
      standAt apos.atName
      let (f, first) ← holding [ov] (getMethod ov m pl)
      callWith pos f first (backTo pos (starEach [] X.env)) (backToKw pos (keywordEach [] X.env))) := by rfl) : Ev true X Γ (.Call (.Attribute (.Name n p) m apos) [] [] pos) s zz := hz ▸ EvP.ev (ev_methR0 (pl := pl) i so F hr g pk hx hn hN hv hd hcd ht)
end
/-- what copying asks -/
structure CopyOk (S : Ses) : Prop where
  net : NetS S
  ok : FillOk S.netL S.order
  h : S.history.length ≤ 1000
  l : S.looked.length ≤ 1000000
abbrev C_S_copy (Pg : Program) (Wd : World) (K : PySem.W.Frag) (mg : Str → Option Value) (Bh : Heap) : Prop := MCal Pg Wd K mg Bh (CS K) "copy" 8 ["self"] (spRN (oSes (CS K)) fNil (oSes (CS K)) (fun S _ => CopyOk S) (fun S _ z => z = S.copyL))
set_option maxHeartbeats 2000000 in
theorem c_S_copy {Pg : Program} {Wd : World} {K : PySem.W.Frag} {mg : Str → Option Value} {Bh : Heap} (T : Hd K mg) (h_S_net : C_S_net Pg Wd K mg Bh) (h_S_init : C_S_init Pg Wd K mg Bh) : C_S_copy Pg Wd K mg Bh := by
  obtain ⟨fd, F⟩ := T.f_S_copy
  have S : FnScope ["self", "twin", "edits"] ["self"] (defScope sS_copy) := ⟨rfl, rfl, rfl, by decide +kernel, rfl, by decide +kernel, by decide +kernel⟩
  refine Ov.Fn1.mcal (fnRN_ok F S (F.bindsN fun _ _ _ _ _ _ us hl => match us, hl with | [_], _ => rfl) rfl (fun cdv Ar ou st0 Hh Ee hr bb De v0 S0 xx hpre hret => ?_)) T.cls (T.meth 91)
  refine ⟨_, .nil, ?_⟩
  have hC : CopyOk S0 := hpre
  have hh := hC.h
  have hl := hC.l
  obtain ⟨fdi, Fi, kpi, bi⟩ := h_S_init.ex
  refine run_asgN 1 S.nd (ev_make (y := (S0.netL, S0.order)) Fi bi T.mkr (hr.mono (by decide)) T.g_Session (ef_cons (ev_methR0E 0 S0 (sesO _) h_S_net (hr.mono (by decide)) rfl peek_rd hC.net) (ef_one (ev_fldP 0 fp_order (sesO _) T.cls (T.noat 74) rfl peek_rd))) hC.ok) ?_
  refine run_fldNew 1 fl_history T.cls (T.noat 80) rfl hold_own (ev_lc (lc_l (r := rLst rEdit) (s := rLst rEdit) (g := fun e => e) (Γt := fun e => [.rd v0 (oSes (CS K)) S0, .own (oSes (CS K)) (sesNew S0.netL S0.order), .pub (rLst rEdit) e]) [("edits", 2)] [2] rfl S.nd (ev_fldL 0 SesW.ph (fun _ _ => rfl) (fun s => s.his) (sesO _) T.cls (T.noat 80) rfl peek_rd) (sz_le (by omega)) (by show blkC ["self", "twin", "edits"] (defScope sS_copy) _ _ = true; decide +kernel) (fun t ht s0 H0 C cl fp0 => tg_name 2 S.nd) (fun t ht s0 H0 C cl fp0 => EvN.pub (ev_listL T.b_list (ev_pub 2))))) ?_
  refine run_fldNew 1 fl_looked T.cls (T.noat 81) rfl hold_own (ev_listE T.b_list (ev_fldL 0 SesW.pk (fun _ _ => rfl) (fun s => s.loo) (sesO _) T.cls (T.noat 81) rfl peek_rd)) ?_
  rw [List.map_id']
  exact run_retN 1 rfl (hret _ rfl)
end Ov

/-! ## F11 -/
namespace Ov
open PySem PySem.Spec PyProof.Rows L2 T

theorem filledP_len : ∀ (rows : List Row) (t : Tab (Option Int)), (rows.foldl (fun t r => tput (tput t (r.1, r.2.1) r.2.2.1) (r.2.1, r.1) r.2.2.2.1) t).length ≤ t.length + 2 * rows.length
  | [], t => by simp
  | r :: rows, t => by
    rw [List.foldl_cons, List.length_cons]
    have h1 := filledP_len rows (tput (tput t (r.1, r.2.1) r.2.2.1) (r.2.1, r.1) r.2.2.2.1)
    have h2 := tput_length t (r.1, r.2.1) r.2.2.1
    have h3 := tput_length (tput t (r.1, r.2.1) r.2.2.1) (r.2.1, r.1) r.2.2.2.1
    omega
abbrev C_filled_prices (Pg : Program) (Wd : World) (K : PySem.W.Frag) (mg : Str → Option Value) (Bh : Heap) : Prop := Cal Pg Wd K mg Bh "filled_prices" 1 ["rows"] (spF (fOne (rLst rRow)) (rTab rOpt) (fun rows => rows.length ≤ 40000) (fun rows y => y = filledP rows))
set_option maxHeartbeats 2000000 in
theorem c_filled_prices {Pg : Program} {Wd : World} {K : PySem.W.Frag} {mg : Str → Option Value} {Bh : Heap} (T : Hd K mg)  : C_filled_prices Pg Wd K mg Bh := by
  obtain ⟨fd, F⟩ := T.f_filled_prices
  have S : FnScope ["rows", "prices", "low", "high", "up", "down", "_"] ["rows"] (defScope s_filled_prices) := ⟨rfl, rfl, rfl, by decide +kernel, rfl, by decide +kernel, by decide +kernel⟩
  refine fn_ok F S T.g_filled_prices (F.bindsN fun _ _ _ _ _ _ us hl => match us, hl with | [_], _ => rfl) rfl (fun cdv Ar ou st0 Hh Ee hr bb De xx hpre hret hnon => ?_)
  obtain ⟨rows, rfl⟩ : ∃ y, y = xx := ⟨xx, rfl⟩
  refine ⟨_, .one, ?_⟩
  have hl : rows.length ≤ 40000 := hpre
  refine run_asgN 1 S.nd (ev_dicT (r := rOpt)) ?_
  refine run_for rfl (ev_pub 0) (fun i => [.pub (rLst rRow) rows, .own (oTab rOpt) (filledP (rows.take i)), .un, .un, .un, .un, .un]) (Le.refl _) (fun b1 hb i r hi => ?_) ?_
  · have h1 : (filledP (rows.take i)).length ≤ 0 + 2 * (rows.take i).length := filledP_len _ _
    rw [List.length_take] at h1
    have e : filledP (rows.take (i + 1)) = tput (tput (filledP (rows.take i)) (r.1, r.2.1) r.2.2.1) (r.2.1, r.1) r.2.2.2.1 := by unfold filledP; rw [take_foldl hi]
    rw [e]
    obtain ⟨lo, hg, up, dn, um, dm⟩ := r
    have h2 := tput_length (filledP (rows.take i)) (lo, hg) up
    refine ⟨_, _, tg_tup rfl (tgs_cons (tg_name 2 S.nd) (tgs_cons (tg_name 3 S.nd) (tgs_cons (tg_name 4 S.nd) (tgs_cons (tg_name 5 S.nd) (tgs_cons (tg_name 6 S.nd) (tgs_one (tg_name 6 S.nd))))))), ?_⟩
    refine run_setT 1 (hu_of hr) rfl (ev_pub 4) (ev_tup (ef_cons (ev_pub 2) (ef_one (ev_pub 3)))) (sz_le (by omega)) ?_
    refine run_setT 1 (hu_of hr) rfl (ev_pub 5) (ev_tup (ef_cons (ev_pub 3) (ef_one (ev_pub 2)))) (sz_le (show (tput (filledP (rows.take i)) (lo, hg) up).length ≤ _ by omega)) ?_
    exact run_last (To.le (.cons .same (.cons .same (.cons .un (.cons .un (.cons .un (.cons .un (.cons .un .nil))))))) fun _ _ g => g)
  · rw [List.take_length]
    refine run_pub 1 rfl ?_
    exact run_ret (ev_pub 1) (hret _ _ rfl)
abbrev C_total_prices (Pg : Program) (Wd : World) (K : PySem.W.Frag) (mg : Str → Option Value) (Bh : Heap) : Prop := Cal Pg Wd K mg Bh "total_prices" 1 ["one", "two"] (spF (fCons rOpt (fOne rOpt)) rOpt (fun x => True) (fun x y => y = osum x.1 x.2))
set_option maxHeartbeats 2000000 in
theorem c_total_prices {Pg : Program} {Wd : World} {K : PySem.W.Frag} {mg : Str → Option Value} {Bh : Heap} (T : Hd K mg)  : C_total_prices Pg Wd K mg Bh := by
  obtain ⟨fd, F⟩ := T.f_total_prices
  have S : FnScope ["one", "two"] ["one", "two"] (defScope s_total_prices) := ⟨rfl, rfl, rfl, by decide +kernel, rfl, by decide +kernel, by decide +kernel⟩
  refine fn_ok F S T.g_total_prices (F.bindsN fun _ _ _ _ _ _ us hl => match us, hl with | [_, _], _ => rfl) rfl (fun cdv Ar ou st0 Hh Ee hr bb De xx hpre hret hnon => ?_)
  obtain ⟨one, two⟩ := xx
  refine ⟨_, (.cons .one), ?_⟩
  cases one with
  | none =>
    refine run_yes (EvW.t (ew_or (u := true) (et_isN vn_opt (ev_pub 0)) (by intro h; cases h))) rfl ?_
    exact run_ret ev_non (hret _ _ (by cases two <;> rfl))
  | some a =>
    cases two with
    | none =>
      refine run_yes (EvW.t (ew_or (et_isN vn_opt (ev_pub 0)) fun _ => ew_or1 (et_isN vn_opt (ev_pub 1)))) rfl ?_
      exact run_ret ev_non (hret _ _ rfl)
    | some b =>
      refine run_no (EvW.t (ew_or (et_isN vn_opt (ev_pub 0)) fun _ => ew_or1 (et_isN vn_opt (ev_pub 1)))) rfl ?_
      exact run_ret (Ev.opt (ev_add (Ev.unopt (ev_pub 0)) (Ev.unopt (ev_pub 1)))) (hret _ _ rfl)

theorem tput_pos {κ α : Type} [DecidableEq κ] {t : List (κ × α)} {k : κ} (x : α) (h : (tget t k).isSome = true) : tput t k x = t.map fun p => if p.1 = k then (p.1, x) else p := by unfold tput; rw [tany, if_pos h]
theorem tput_neg {κ α : Type} [DecidableEq κ] {t : List (κ × α)} {k : κ} (x : α) (h : (tget t k).isSome = false) : tput t k x = t ++ [(k, x)] := by unfold tput; rw [tany, if_neg (by rw [h]; decide)]
theorem tput_tput {κ α : Type} [DecidableEq κ] (t : List (κ × α)) (k : κ) (x y : α) : tput (tput t k x) k y = tput t k y := by
  have h2 : (tget (tput t k x) k).isSome = true := by rw [tget_tput_same]; rfl
  rw [tput_pos y h2]
  cases h : (tget t k).isSome with
  | true =>
    rw [tput_pos x h, tput_pos y h, List.map_map]
    apply List.map_congr_left
    intro p _
    show (if (if p.1 = k then (p.1, x) else p).1 = k then ((if p.1 = k then (p.1, x) else p).1, y) else (if p.1 = k then (p.1, x) else p)) = if p.1 = k then (p.1, y) else p
    by_cases e : p.1 = k
    · simp [e]
    · simp [e]
  | false =>
    rw [tput_neg x h, tput_neg y h, List.map_append]
    have h3 : ∀ p ∈ t, p.1 ≠ k := fun p m z => by
      have : (t.any fun p => decide (p.1 = k)) = true := List.any_eq_true.mpr ⟨p, m, decide_eq_true z⟩
      rw [tany, h] at this
      cases this
    have h4 : t.map (fun p => if p.1 = k then (p.1, y) else p) = t := by
      conv => rhs; rw [← List.map_id t]
      exact List.map_congr_left fun p m => if_neg (h3 p m)
    rw [h4]
    simp
theorem upperOf_len : ∀ (rows : List Row) (d : List (Nat × List Nat)), (rows.foldl (fun d r => dapp d r.1 r.2.1) d).length ≤ d.length + rows.length ∧ ∀ k l c, (∀ k l, tget d k = some l → l.length ≤ c) → tget (rows.foldl (fun d r => dapp d r.1 r.2.1) d) k = some l → l.length ≤ c + rows.length
  | [], d => ⟨by simp, fun k l c h e => by have := h k l e; simpa using this⟩
  | r :: rows, d => by
    have ih := upperOf_len rows (dapp d r.1 r.2.1)
    have h1 := dapp_len d r.1 r.2.1
    refine ⟨by rw [List.foldl_cons, List.length_cons]; have := ih.1; omega, fun k l c h e => ?_⟩
    rw [List.foldl_cons] at e
    have := ih.2 k l (c + 1) (fun k l e => by
      rw [tget_dapp] at e
      split at e
      · cases e
        rw [List.length_append]
        cases q : tget d r.1 with
        | none => simp
        | some z => have := h _ _ q; simp; omega
      · have := h k l e; omega) e
    rw [List.length_cons]; omega
abbrev C_upper_of (Pg : Program) (Wd : World) (K : PySem.W.Frag) (mg : Str → Option Value) (Bh : Heap) : Prop := Cal Pg Wd K mg Bh "upper_of" 1 ["rows"] (spF (fOne (rLst rRow)) (rDic (rLst rNat)) (fun rows => rows.length ≤ 40000) (fun rows y => y = upperOf rows))
set_option maxHeartbeats 2000000 in
theorem c_upper_of {Pg : Program} {Wd : World} {K : PySem.W.Frag} {mg : Str → Option Value} {Bh : Heap} (T : Hd K mg)  : C_upper_of Pg Wd K mg Bh := by
  obtain ⟨fd, F⟩ := T.f_upper_of
  have S : FnScope ["rows", "upper", "row"] ["rows"] (defScope s_upper_of) := ⟨rfl, rfl, rfl, by decide +kernel, rfl, by decide +kernel, by decide +kernel⟩
  refine fn_ok F S T.g_upper_of (F.bindsN fun _ _ _ _ _ _ us hl => match us, hl with | [_], _ => rfl) rfl (fun cdv Ar ou st0 Hh Ee hr bb De xx hpre hret hnon => ?_)
  obtain ⟨rows, rfl⟩ : ∃ y, y = xx := ⟨xx, rfl⟩
  refine ⟨_, .one, ?_⟩
  have hl : rows.length ≤ 40000 := hpre
  refine run_asgN 1 S.nd ev_mlK ?_
  refine run_for rfl (ev_pub 0) (fun i => [.pub (rLst rRow) rows, .own (oML kdI) (upperOf (rows.take i)), .un]) (Le.refl _) (fun b1 hb i r hi => ?_) ?_
  · have h1 := upperOf_len (rows.take i) []
    have h2 : (upperOf (rows.take i)).length ≤ 0 + (rows.take i).length := h1.1
    rw [List.length_take] at h2
    have e : upperOf (rows.take (i + 1)) = dapp (upperOf (rows.take i)) r.1 r.2.1 := by unfold upperOf; rw [take_foldl hi]
    have h3 : ∀ k l, tget (upperOf (rows.take i)) k = some l → l.length ≤ 40000 := fun k l z => by
      have := h1.2 k l 0 (fun _ _ z => by cases z) z
      rw [List.length_take] at this
      omega
    rw [e]
    generalize upperOf (rows.take i) = d at h2 h3
    obtain ⟨lo, hg, c⟩ := r
    refine ⟨_, _, tg_name 2 S.nd, ?_⟩
    cases hk : tget d lo with
    | none =>
      refine run_if (et_ninK (hu_of hr) (ev_ixT (ev_pub 2) (ev_nat (i := 0)) .hd) (ev_mlPubK (ev_own (o := oML kdI) 1))) (fun h => ?_) (fun h => ?_)
      · refine run_mlNew 1 (hu_of hr) rfl hold_own (ev_ixT (ev_pub 2) (ev_nat (i := 0)) .hd) hk (sz_le (by omega)) ?_
        refine run_end ?_
        refine run_mlApp (xs := []) 1 (hu_of hr) rfl hold_own (ev_ixT (ev_pub 2) (ev_nat (i := 0)) .hd) (ev_ixT (ev_pub 2) (ev_nat (i := 1)) (.tl .hd)) (tget_tput_same _ _ _) (sz_le (by simp)) ?_
        have e2 : tput (tput d lo []) lo ([] ++ [hg]) = dapp d lo hg := by
          unfold dapp; rw [hk]
          exact tput_tput d lo [] ([] ++ [hg])
        rw [e2]
        exact run_last (To.le (.cons .same (.cons .same (.cons .un .nil))) fun _ _ g => g)
      · rw [hk] at h; cases h
    | some xs =>
      refine run_no (et_ninK (hu_of hr) (ev_ixT (ev_pub 2) (ev_nat (i := 0)) .hd) (ev_mlPubK (ev_own (o := oML kdI) 1))) (by rw [hk]; rfl) ?_
      refine run_mlApp 1 (hu_of hr) rfl hold_own (ev_ixT (ev_pub 2) (ev_nat (i := 0)) .hd) (ev_ixT (ev_pub 2) (ev_nat (i := 1)) (.tl .hd)) hk (sz_le (by have := h3 lo xs hk; omega)) ?_
      have e2 : tput d lo (xs ++ [hg]) = dapp d lo hg := by unfold dapp; rw [hk]; rfl
      rw [e2]
      exact run_last (To.le (.cons .same (.cons .same (.cons .un .nil))) fun _ _ g => g)
  · rw [List.take_length]
    refine run_pub 1 rfl ?_
    exact run_ret (ev_mlPubK (ev_pub 1)) (hret _ _ rfl)
end Ov

/-! ## F12 -/
namespace Ov
open PySem PySem.Spec PyProof.Rows L2 T
abbrev C_way_of (Pg : Program) (Wd : World) (K : PySem.W.Frag) (mg : Str → Option Value) (Bh : Heap) : Prop := Cal Pg Wd K mg Bh "way_of" 1 ["rows", "x", "y"] (spF (fCons (rLst rRow) (fCons rNat (fOne rNat))) rSum (fun x => (wayOf x.1 x.2.1 x.2.2).isSome = true) (fun x y => y = (wayOf x.1 x.2.1 x.2.2).getD (none, none)))
set_option maxHeartbeats 2000000 in
theorem c_way_of {Pg : Program} {Wd : World} {K : PySem.W.Frag} {mg : Str → Option Value} {Bh : Heap} (T : Hd K mg)  : C_way_of Pg Wd K mg Bh := by
  obtain ⟨fd, F⟩ := T.f_way_of
  have S : FnScope ["rows", "x", "y", "low", "high", "up", "down", "up_middle", "down_middle", "#"] ["rows", "x", "y"] (defScope s_way_of) := ⟨rfl, rfl, rfl, by decide +kernel, rfl, by decide +kernel, by decide +kernel⟩
  refine fn_ok F S T.g_way_of (F.bindsN fun _ _ _ _ _ _ us hl => match us, hl with | [_, _, _], _ => rfl) rfl (fun cdv Ar ou st0 Hh Ee hr bb De xx hpre hret hnon => ?_)
  obtain ⟨rows, x, y⟩ := xx
  refine ⟨_, (.cons (.cons .one)), ?_⟩
  have hw : (wayOf rows x y).isSome = true := hpre
  refine run_for rfl (ev_pub 0) (fun i => [.pub (rLst rRow) rows, .pub rNat x, .pub rNat y, .un, .un, .un, .un, .un, .un, .fact (wayOf (rows.drop i) x y = wayOf rows x y)]) (.cons .same (.cons .same (.cons .same (.cons .un (.cons .un (.cons .un (.cons .un (.cons .un (.cons .un (.cons (.fact (by rw [List.drop_zero])) .nil)))))))))) (fun b1 hb i r hi => ?_) ?_
  · have hd : rows.drop i = r :: rows.drop (i + 1) := by
      have hl := (List.getElem?_eq_some_iff.mp hi).1
      rw [List.drop_eq_getElem_cons hl]
      congr 1
      exact (List.getElem?_eq_some_iff.mp hi).2
    obtain ⟨lo, hg, up, dn, um, dm⟩ := r
    refine ⟨_, _, tg_tup rfl (tgs_cons (tg_name 3 S.nd) (tgs_cons (tg_name 4 S.nd) (tgs_cons (tg_name 5 S.nd) (tgs_cons (tg_name 6 S.nd) (tgs_cons (tg_name 7 S.nd) (tgs_one (tg_name 8 S.nd))))))), ?_⟩
    refine run_fact 9 rfl fun hno => ?_
    rw [hd] at hno
    have hno : (if (lo, hg) = (x, y) then some (up, um) else if (hg, lo) = (x, y) then some (dn, dm) else wayOf (rows.drop (i + 1)) x y) = wayOf rows x y := hno
    refine run_if (et_eqD (dTup (dCons dNat (dOne dNat))) hr.units (ev_tup (ef_cons (ev_pub 3) (ef_one (ev_pub 4)))) (ev_tup (ef_cons (ev_pub 1) (ef_one (ev_pub 2))))) (fun h => ?_) (fun h => run_end ?_)
    · have h := of_decide_eq_true h
      rw [if_pos h] at hno
      exact run_ret (ev_tup (ef_cons (ev_pub 5) (ef_one (ev_pub 7)))) ((hret _ _ (by show (up, um) = (wayOf rows x y).getD (none, none); rw [← hno]; rfl)).base hb)
    · have h := of_decide_eq_false h
      rw [if_neg h] at hno
      refine run_if (et_eqD (dTup (dCons dNat (dOne dNat))) hr.units (ev_tup (ef_cons (ev_pub 4) (ef_one (ev_pub 3)))) (ev_tup (ef_cons (ev_pub 1) (ef_one (ev_pub 2))))) (fun h => ?_) (fun h => run_end ?_)
      · have h := of_decide_eq_true h
        rw [if_pos h] at hno
        exact run_ret (ev_tup (ef_cons (ev_pub 6) (ef_one (ev_pub 8)))) ((hret _ _ (by show (dn, dm) = (wayOf rows x y).getD (none, none); rw [← hno]; rfl)).base hb)
      · have h := of_decide_eq_false h
        rw [if_neg h] at hno
        exact run_last (To.le (.cons .same (.cons .same (.cons .same (.cons .un (.cons .un (.cons .un (.cons .un (.cons .un (.cons .un (.cons (.fact hno) .nil)))))))))) fun _ _ g => g)
  · refine run_fact 9 rfl fun hno => ?_
    exfalso
    rw [List.drop_length] at hno
    rw [← hno] at hw
    cases hw

abbrev C_road_of (k : Nat) (Pg : Program) (Wd : World) (K : PySem.W.Frag) (mg : Str → Option Value) (Bh : Heap) : Prop := Cal Pg Wd K mg Bh "road_of" (k + 2) ["rows", "x", "y"] (spF (fCons (rLst rRow) (fCons rNat (fOne rNat))) (rLst rNat) (fun x => k ≤ 16 ∧ (roadOf x.1 k x.2.1 x.2.2).isSome = true) (fun x y => y = (roadOf x.1 k x.2.1 x.2.2).getD []))
set_option maxHeartbeats 2000000 in
theorem c_road_of {Pg : Program} {Wd : World} {K : PySem.W.Frag} {mg : Str → Option Value} {Bh : Heap} (T : Hd K mg) (h_way_of : C_way_of Pg Wd K mg Bh) : ∀ k, C_road_of k Pg Wd K mg Bh := by
  intro k
  induction k with
  | zero =>
    obtain ⟨fd, F⟩ := T.f_road_of
    have S : FnScope ["rows", "x", "y", "price", "middle"] ["rows", "x", "y"] (defScope s_road_of) := ⟨rfl, rfl, rfl, by decide +kernel, rfl, by decide +kernel, by decide +kernel⟩
    refine fn_ok F S T.g_road_of (F.bindsN fun _ _ _ _ _ _ us hl => match us, hl with | [_, _, _], _ => rfl) rfl (fun cdv Ar ou st0 Hh Ee hr bb De xx hpre hret hnon => ?_)
    exact absurd hpre.2 (by unfold roadOf; decide)
  | succ k ih =>
    obtain ⟨fd, F⟩ := T.f_road_of
    have S : FnScope ["rows", "x", "y", "price", "middle"] ["rows", "x", "y"] (defScope s_road_of) := ⟨rfl, rfl, rfl, by decide +kernel, rfl, by decide +kernel, by decide +kernel⟩
    refine fn_ok F S T.g_road_of (F.bindsN fun _ _ _ _ _ _ us hl => match us, hl with | [_, _, _], _ => rfl) rfl (fun cdv Ar ou st0 Hh Ee hr bb De xx hpre hret hnon => ?_)
    obtain ⟨rows, x, y⟩ := xx
    refine ⟨_, (.cons (.cons .one)), ?_⟩
    obtain ⟨hk, hs⟩ := hpre
    obtain ⟨l, hl⟩ := Option.isSome_iff_exists.mp hs
    have hl : roadOf rows (k + 1) x y = some l := hl
    have hl0 := hl
    unfold roadOf at hl
    cases e : wayOf rows x y with
    | none => rw [e] at hl; cases hl
    | some s =>
      rw [e] at hl
      obtain ⟨p, mi⟩ := s
      refine run_unp (ev_callZ (z := (p, mi)) h_way_of (hr.mono (by omega)) (ef_cons (ev_pub 0) (ef_cons (ev_pub 1) (ef_one (ev_pub 2)))) (by show (wayOf rows x y).isSome = true; rw [e]; rfl) (by show (wayOf rows x y).getD (none, none) = (p, mi); rw [e]; rfl)) (tg_tup rfl (tgs_cons (tg_name 3 S.nd) (tgs_one (tg_name 4 S.nd)))) ?_
      cases p with
      | none => cases hl
      | some p =>
        refine run_no (et_isN vn_opt (ev_pub 3)) rfl ?_
        cases mi with
        | none =>
          have hl : some [x, y] = some l := hl
          cases hl
          refine run_yes (et_isN vn_opN (ev_pub 4)) rfl ?_
          refine run_ret (EvN.pub (ev_lst (ei_cons (ev_pub 1) (ei_cons (ev_pub 2) ef_nil1)) (by simp; exact sz_le' (by decide)))) (hret _ _ ?_)
          show [x, y] = (roadOf rows (k + 1) x y).getD []
          rw [hl0]; rfl
        | some w =>
          refine run_no (et_isN vn_opN (ev_pub 4)) rfl ?_
          dsimp only at hl
          cases e1 : roadOf rows k x w with
          | none => rw [e1] at hl; cases hl
          | some a =>
            cases e2 : roadOf rows k w y with
            | none => rw [e1, e2] at hl; cases hl
            | some c =>
              rw [e1, e2] at hl
              cases hl
              have n1 := roadOf_len e1
              have n2 := roadOf_len e2
              have hk : k + 1 ≤ 16 := hk
              have hp : 2 ^ k ≤ 2 ^ 16 := Nat.pow_le_pow_right (by decide) (by omega)
              refine run_ret (EvN.pub (ev_cat (ev_callZ (z := a) ih (hr.mono (by omega)) (ef_cons (ev_pub 0) (ef_cons (ev_pub 1) (ef_one (Ev.unopN (ev_pub 4))))) ⟨by omega, by show (roadOf rows k x w).isSome = true; rw [e1]; rfl⟩ (by show (roadOf rows k x w).getD [] = a; rw [e1]; rfl)) (EvN.pub (ev_drop (ev_callZ (z := c) ih (hr.mono (by omega)) (ef_cons (ev_pub 0) (ef_cons (Ev.unopN (ev_pub 4)) (ef_one (ev_pub 2)))) ⟨by omega, by show (roadOf rows k w y).isSome = true; rw [e2]; rfl⟩ (by show (roadOf rows k w y).getD [] = c; rw [e2]; rfl)) (ev_nat (i := 1)))) (sz_le' (by rw [List.length_drop]; omega)))) (hret _ _ ?_)
              show a ++ c.drop 1 = (roadOf rows (k + 1) x y).getD []
              rw [hl0]; rfl
abbrev C_answer_road (Pg : Program) (Wd : World) (K : PySem.W.Frag) (mg : Str → Option Value) (Bh : Heap) : Prop := Cal Pg Wd K mg Bh "answer_road" 19 ["order", "rows", "start", "stop"] (spF (fCons (rLst rNat) (fCons (rLst rRow) (fCons rNat (fOne rNat)))) (rMay (rLst rNat)) (fun x => RoadOk x.1 x.2.1 x.2.2.1 x.2.2.2) (fun x y => y = answerRoad x.1 x.2.1 x.2.2.1 x.2.2.2))
set_option maxHeartbeats 2000000 in
theorem c_answer_road {Pg : Program} {Wd : World} {K : PySem.W.Frag} {mg : Str → Option Value} {Bh : Heap} (T : Hd K mg) (h_check_places : C_check_places Pg Wd K mg Bh) (h_up_sums : C_up_sums Pg Wd K mg Bh) (h_down_sums : C_down_sums Pg Wd K mg Bh) (h_meeting : C_meeting Pg Wd K mg Bh) (h_road_of : C_road_of 16 Pg Wd K mg Bh) : C_answer_road Pg Wd K mg Bh := by
  obtain ⟨fd, F⟩ := T.f_answer_road
  have S : FnScope ["order", "rows", "start", "stop", "ups", "downs", "top", "chain", "road", "k"] ["order", "rows", "start", "stop"] (defScope s_answer_road) := ⟨rfl, rfl, rfl, by decide +kernel, rfl, by decide +kernel, by decide +kernel⟩
  refine fn_ok F S T.g_answer_road (F.bindsN fun _ _ _ _ _ _ us hl => match us, hl with | [_, _, _, _], _ => rfl) rfl (fun cdv Ar ou st0 Hh Ee hr bb De xx hpre hret hnon => ?_)
  obtain ⟨order, rows, start, stop⟩ := xx
  refine ⟨_, (.cons (.cons (.cons .one))), ?_⟩
  have h0 : RoadOk order rows start stop := hpre
  have hn := h0.n
  refine run_drop (ev_call h_check_places (hr.mono (by decide)) (ef_cons (ev_pub 0) (ef_one (EvN.pub (ev_lst (ei_cons (ev_pub 2) (ei_cons (ev_pub 3) ef_nil1)) (by simp; exact sz_le' (by decide)))))) (by simp; exact ⟨h0.hs, h0.ht⟩)) ?_
  refine run_asg 4 S.nd (ev_callZ (z := sumsOver order.length rows start true) h_up_sums (hr.mono (by decide)) (ef_cons (ev_pub 0) (ef_cons (ev_pub 1) (ef_one (ev_pub 2)))) ⟨(show order.length ≤ 1000 by omega), h0.rl, h0.hs⟩ rfl) ?_
  refine run_asg 5 S.nd (ev_callZ (z := sumsOver order.length rows stop false) h_down_sums (hr.mono (by decide)) (ef_cons (ev_pub 0) (ef_cons (ev_pub 1) (ef_one (ev_pub 3)))) ⟨(show order.length ≤ 1000 by omega), h0.rl, h0.ht⟩ rfl) ?_
  have go := h0.go
  have har : answerRoad order rows start stop = (match (answerL order rows start stop).2 with
    | none => none
    | some top => some (start :: chainRoad rows order.length (answerChain order rows start stop top))) := rfl
  have hac : ∀ top, answerChain order rows start stop top = (stepsTo (sumsOver order.length rows start true) start order.length top).reverse ++ (stepsTo (sumsOver order.length rows stop false) stop order.length top).drop 1 := fun _ => rfl
  have hme : answerL order rows start stop = meetingL order (sumsOver order.length rows start true) (sumsOver order.length rows stop false) := rfl
  have hul := sumsOver_len order.length rows start true
  have hdl := sumsOver_len order.length rows stop false
  generalize sumsOver order.length rows start true = us at go hac hme hul
  generalize sumsOver order.length rows stop false = ds at go hac hme hdl
  rw [hme] at go har
  generalize hM : meetingL order us ds = M at go har
  obtain ⟨m1, m2⟩ := M
  refine run_asg 6 S.nd (ev_ixT (ev_callZ (z := (m1, m2)) h_meeting (hr.mono (by decide)) (ef_cons (ev_pub 0) (ef_cons (ev_pub 4) (ef_one (ev_pub 5)))) ⟨hul, hdl, h0.lt⟩ hM) (ev_nat (i := 1)) (.tl .one)) ?_
  cases m2 with
  | none =>
    refine run_yes (et_isN vn_opN (ev_pub 6)) rfl ?_
    exact run_ret ev_nonM (hret _ _ har.symm)
  | some top =>
    refine run_no (et_isN vn_opN (ev_pub 6)) rfl ?_
    obtain ⟨g1, g2, g3, g4, g5, g6, g7⟩ := go top rfl
    have hac := hac top
    have har : answerRoad order rows start stop = some (start :: chainRoad rows order.length (answerChain order rows start stop top)) := har
    generalize answerChain order rows start stop top = ch at hac har g7
    generalize stepsTo us start order.length top = cu at g1 g3 g5 hac
    generalize stepsTo ds stop order.length top = cd at g2 g4 g6 hac
    have cu0 : cu[0]? = some top := by rw [← List.head?_eq_getElem?]; exact g3
    have cd0 : cd[0]? = some top := by rw [← List.head?_eq_getElem?]; exact g4
    have cul : 0 < cu.length := (List.getElem?_eq_some_iff.mp cu0).1
    have cdl : 0 < cd.length := (List.getElem?_eq_some_iff.mp cd0).1
    have lastT : ∀ {l : List Nat} {i x : Nat}, l[i]? = some x → (l.take (i + 1)).getLast? = some x := fun {l i x} h => by
      rw [List.take_add_one, h]; simp
    have cu1 : cu.take 1 = [top] := by rw [List.take_add_one, cu0]; rfl
    refine run_asgN 7 S.nd (ev_lst (ei_cons (Ev.unopN (ev_pub 6)) ef_nil1) (by simp; exact sz_le' (by decide))) ?_
    refine run_while (n := cu.length - 1) (fun i => [.pub (rLst rNat) order, .pub (rLst rRow) rows, .pub rNat start, .pub rNat stop, .pub (rLst rSum) us, .pub (rLst rSum) ds, .pub rOpN (some top), .own (oLst rNat) (cu.take (i + 1)), .un, .un]) (by rw [cu1]; exact Le.refl _) (fun i hi => ?_) (fun i hi => ?_) ?_
    · have hx : cu[i]? = some (cu.getD i 0) := getD_get (by omega)
      generalize cu.getD i 0 = x at hx
      refine EvT.is (et_ne sc_nat (Ev.flat (ρ := false) fNat (ev_ixI (ev_own (o := oLst rNat) 7) ev_minus (atI_last' (lastT hx)))) (ev_pub 2)) ?_
      rcases g1.at_ hx with ⟨a, c⟩ | ⟨y, a, c, _⟩
      · rw [c, decide_eq_true rfl, decide_eq_false (by omega)]; rfl
      · rw [decide_eq_false c, decide_eq_true (by omega)]; rfl
    · have hx : cu[i]? = some (cu.getD i 0) := getD_get (by omega)
      generalize cu.getD i 0 = x at hx
      rcases g1.at_ hx with ⟨a, c⟩ | ⟨y, a, c, q1, q2⟩
      · omega
      · have e : cu.take (i + 1 + 1) = cu.take (i + 1) ++ [y] := by
          rw [List.take_add_one, q1]; rfl
        rw [e]
        refine run_app 7 rfl (Ev.unopN (ev_ixT (ev_ix (ev_pub 4) (Ev.flat (ρ := false) fNat (ev_ixI (ev_own (o := oLst rNat) 7) ev_minus (atI_last' (lastT hx)))) q2) (ev_nat (i := 1)) (.tl .one))) (sz_le (by rw [List.length_take]; omega)) ?_
        exact run_last (To.le (Le.refl _) fun _ _ g => g)
    · have e1 : cu.take (cu.length - 1 + 1) = cu := List.take_of_length_le (by omega)
      rw [e1]
      refine run_rev 7 rfl ?_ rfl (Or.inl rfl) (ps_expr (pe_bm0 PySem.F.plainAttrs_list PySem.F.slot_list_reverse PySem.F.type_list_reverse mt_reverse (pv _)))
      have last2 : ∀ {i x : Nat}, cd[i]? = some x → (cu.reverse ++ (cd.take (i + 1)).drop 1).getLast? = some x := fun {i x} h => by
        cases i with
        | zero =>
          rw [cd0] at h
          cases h
          have : (cd.take (0 + 1)).drop 1 = [] := by simp
          rw [this, List.append_nil, List.getLast?_reverse]
          exact g3
        | succ i =>
          rw [List.take_add_one, h, List.drop_append_of_le_length (by rw [List.length_take]; have := (List.getElem?_eq_some_iff.mp h).1; omega)]
          simp
      have e2 : cu.reverse ++ (cd.take (0 + 1)).drop 1 = cu.reverse := by simp
      refine run_while (n := cd.length - 1) (fun i => [.pub (rLst rNat) order, .pub (rLst rRow) rows, .pub rNat start, .pub rNat stop, .pub (rLst rSum) us, .pub (rLst rSum) ds, .pub rOpN (some top), .own (oLst rNat) (cu.reverse ++ (cd.take (i + 1)).drop 1), .un, .un]) (by rw [e2]; exact Le.refl _) (fun i hi => ?_) (fun i hi => ?_) ?_
      · have hx : cd[i]? = some (cd.getD i 0) := getD_get (by omega)
        generalize cd.getD i 0 = x at hx
        refine EvT.is (et_ne sc_nat (Ev.flat (ρ := false) fNat (ev_ixI (ev_own (o := oLst rNat) 7) ev_minus (atI_last' (last2 hx)))) (ev_pub 3)) ?_
        rcases g2.at_ hx with ⟨a, c⟩ | ⟨y, a, c, _⟩
        · rw [c, decide_eq_true rfl, decide_eq_false (by omega)]; rfl
        · rw [decide_eq_false c, decide_eq_true (by omega)]; rfl
      · have hx : cd[i]? = some (cd.getD i 0) := getD_get (by omega)
        generalize cd.getD i 0 = x at hx
        rcases g2.at_ hx with ⟨a, c⟩ | ⟨y, a, c, q1, q2⟩
        · omega
        · have e : cu.reverse ++ (cd.take (i + 1 + 1)).drop 1 = (cu.reverse ++ (cd.take (i + 1)).drop 1) ++ [y] := by
            rw [List.take_add_one, q1, List.drop_append_of_le_length (by rw [List.length_take]; omega)]; simp
          rw [e]
          refine run_app 7 rfl (Ev.unopN (ev_ixT (ev_ix (ev_pub 5) (Ev.flat (ρ := false) fNat (ev_ixI (ev_own (o := oLst rNat) 7) ev_minus (atI_last' (last2 hx)))) q2) (ev_nat (i := 1)) (.tl .one))) (sz_le (by simp; omega)) ?_
          exact run_last (To.le (Le.refl _) fun _ _ g => g)
      · have e3 : cd.take (cd.length - 1 + 1) = cd := List.take_of_length_le (by omega)
        rw [e3, ← hac]
        have chl : 0 < ch.length ∧ ch.length ≤ 100 := by rw [hac]; simp; omega
        refine run_pub 7 rfl ?_
        refine run_asgN 8 S.nd (ev_lst (ei_cons (ev_pub 2) ef_nil1) (by simp; exact sz_le' (by decide))) ?_
        have part : ∀ j, j ≤ ch.length - 1 → ((List.range j).flatMap fun j => ((roadOf rows order.length (ch.getD j 0) (ch.getD (j + 1) 0)).getD []).drop 1).length ≤ j * 65537 := by
          intro j
          induction j with
          | zero => intro _; simp
          | succ j ih =>
            intro hj
            rw [List.range_succ, List.flatMap_append, List.length_append]
            have h1 := ih (by omega)
            obtain ⟨l, hl⟩ := Option.isSome_iff_exists.mp (g7 j _ _ (getD_get (d := 0) (by omega)) (getD_get (d := 0) (by omega)))
            have h2 := roadOf_len hl
            have hp : 2 ^ order.length ≤ 2 ^ 16 := Nat.pow_le_pow_right (by decide) hn
            simp only [List.flatMap_cons, List.flatMap_nil, List.append_nil]
            rw [hl, List.length_drop]
            show _ + (l.length - 1) ≤ _
            omega
        refine run_forR rfl T.b_range (n := ch.length - 1) (Ev.nat (Ev.is (ev_sub (Ev.int (ev_len T.b_len (ev_pub 7))) (ev_int (i := 1))) (by omega))) (by omega) (fun j => [.pub (rLst rNat) order, .pub (rLst rRow) rows, .pub rNat start, .pub rNat stop, .pub (rLst rSum) us, .pub (rLst rSum) ds, .pub rOpN (some top), .pub (rLst rNat) ch, .own (oLst rNat) (start :: (List.range j).flatMap fun j => ((roadOf rows order.length (ch.getD j 0) (ch.getD (j + 1) 0)).getD []).drop 1), .un]) (Le.refl _) (fun b1 hb1 j hj => ?_) ?_
        · have ga : ch[j]? = some (ch.getD j 0) := getD_get (by omega)
          have gb : ch[j + 1]? = some (ch.getD (j + 1) 0) := getD_get (by omega)
          have hpj := part j (by omega)
          have hro := g7 j _ _ ga gb
          obtain ⟨l, hl⟩ := Option.isSome_iff_exists.mp hro
          have h2 := roadOf_len hl
          have hp : 2 ^ order.length ≤ 2 ^ 16 := Nat.pow_le_pow_right (by decide) hn
          have h16 := roadOf_mono hl hn
          have e : (start :: (List.range (j + 1)).flatMap fun j => ((roadOf rows order.length (ch.getD j 0) (ch.getD (j + 1) 0)).getD []).drop 1) = (start :: (List.range j).flatMap fun j => ((roadOf rows order.length (ch.getD j 0) (ch.getD (j + 1) 0)).getD []).drop 1) ++ l.drop 1 := by
            rw [List.range_succ, List.flatMap_append]
            simp only [List.flatMap_cons, List.flatMap_nil, List.append_nil, List.cons_append]
            rw [hl]; rfl
          rw [e]
          refine ⟨_, _, tg_name 9 S.nd, ?_⟩
          refine run_ext 8 rfl (EvN.pub (ev_drop (ev_callZ (z := l) h_road_of (hr.mono (by decide)) (ef_cons (ev_pub 1) (ef_cons (ev_ix (ev_pub 7) (ev_pub 9) ga) (ef_one (ev_ix (ev_pub 7) (ev_addN (ev_pub 9) (ev_nat (i := 1))) gb)))) ⟨Nat.le_refl 16, by show (roadOf rows 16 _ _).isSome = true; rw [h16]; rfl⟩ (by show (roadOf rows 16 _ _).getD [] = l; rw [h16]; rfl)) (ev_nat (i := 1)))) (sz_le' (by rw [List.length_cons, List.length_drop]; omega)) ?_
          exact run_last (To.le (.cons .same (.cons .same (.cons .same (.cons .same (.cons .same (.cons .same (.cons .same (.cons .same (.cons .same (.cons .un .nil)))))))))) fun _ _ g => g)
        · refine run_pub 8 rfl ?_
          refine run_ret (Ev.may (ev_pub 8)) (hret _ _ ?_)
          show some _ = answerRoad order rows start stop
          rw [har, chain_flat]
end Ov

/-! ## F13 -/
namespace Ov
open PySem PySem.Spec PyProof.Rows L2 T

theorem omin_cons (x : Int) (xs : List Int) : ∃ m, omin (x :: xs) = some m ∧ ∀ k, k ∈ x :: xs → (∀ y, y ∈ x :: xs → k ≤ y) → k = m := by
  have L := omin_least (x :: xs)
  cases e : omin (x :: xs) with
  | none => cases e
  | some m =>
    refine ⟨m, rfl, fun k hk hm => ?_⟩
    have h1 := hm m (L.snd m e)
    obtain ⟨m', e', h2⟩ := L.cmp k hk
    rw [e] at e'
    cases e'
    omega
theorem fmap_id (xs : List (Option Int)) : (xs.filter Option.isSome).map (·.getD 0) = xs.filterMap id := by
  induction xs with
  | nil => rfl
  | cons x xs ih =>
    cases x with
    | none => simpa using ih
    | some v => simpa using ih
abbrev C_least (Pg : Program) (Wd : World) (K : PySem.W.Frag) (mg : Str → Option Value) (Bh : Heap) : Prop := Cal Pg Wd K mg Bh "least" 1 ["numbers"] (spF (fOne (rLst rOpt)) rOpt (fun x => x.length ≤ 100000) (fun x y => y = leastL x))
set_option maxHeartbeats 2000000 in
theorem c_least {Pg : Program} {Wd : World} {K : PySem.W.Frag} {mg : Str → Option Value} {Bh : Heap} (T : Hd K mg)  : C_least Pg Wd K mg Bh := by
  obtain ⟨fd, F⟩ := T.f_least
  have S : FnScope ["numbers", "found", "number"] ["numbers"] (defScope s_least) := ⟨rfl, rfl, rfl, by decide +kernel, rfl, by decide +kernel, by decide +kernel⟩
  refine fn_ok F S T.g_least (F.bindsN fun _ _ _ _ _ _ us hl => match us, hl with | [_], _ => rfl) rfl (fun cdv Ar ou st0 Hh Ee hr bb De xx hpre hret hnon => ?_)
  obtain ⟨numbers, rfl⟩ : ∃ y, y = xx := ⟨xx, rfl⟩
  refine ⟨_, .one, ?_⟩
  have hl : numbers.length ≤ 100000 := hpre
  refine run_asgLc 1 (lc_lf (r := rInt) (s := rOpt) (f := Option.isSome) (g := fun o => o.getD 0) (Γt := fun o => [.pub (rLst rOpt) numbers, .un, .pub rOpt o]) [("number", 2)] [2] rfl S.nd (Ev.l (ev_pub 0)) (sz_le (by omega)) (by show blkC ["numbers", "found", "number"] (defScope s_least) _ _ = true; decide +kernel) (fun t ht s0 H0 C cl fp0 => tg_name 2 S.nd) (fun t ht s0 H0 C cl fp0 => EvT.is (et_notN vn_opt (ev_pub 2)) (by cases t <;> rfl)) (fun t ht hf s0 H0 C cl fp0 => ?_)) ?_
  · cases t with
    | none => cases hf
    | some v => exact Ev.unopt (ev_pub 2)
  · rw [fmap_id]
    have hL : leastL numbers = omin (numbers.filterMap id) := rfl
    generalize numbers.filterMap id = xs at hL
    refine run_pub 1 rfl ?_
    cases xs with
    | nil =>
      refine run_yes (et_eq sc_nat (ev_len T.b_len (ev_pub 1)) (ev_nat (i := 0))) rfl ?_
      exact run_ret ev_non (hret _ _ hL.symm)
    | cons x xs =>
      refine run_no (et_eq sc_nat (ev_len T.b_len (ev_pub 1)) (ev_nat (i := 0))) (by simp) ?_
      obtain ⟨m, e, hm⟩ := omin_cons x xs
      exact run_ret (Ev.opt (ev_minL rfl T.b_min (ev_pub 1) (by simp) hm)) (hret _ _ (by rw [hL, e]))
abbrev C_true_prices (Pg : Program) (Wd : World) (K : PySem.W.Frag) (mg : Str → Option Value) (Bh : Heap) : Prop := Cal Pg Wd K mg Bh "true_prices" 2 ["order", "rows"] (spF (fCons (rLst rNat) (fOne (rLst rRow))) (rTab rOpt) (fun x => TpOk x.2) (fun x y => y = truePrices x.2))
set_option maxHeartbeats 2000000 in
theorem c_true_prices {Pg : Program} {Wd : World} {K : PySem.W.Frag} {mg : Str → Option Value} {Bh : Heap} (T : Hd K mg) (h_filled_prices : C_filled_prices Pg Wd K mg Bh) (h_total_prices : C_total_prices Pg Wd K mg Bh) (h_upper_of : C_upper_of Pg Wd K mg Bh) (h_least : C_least Pg Wd K mg Bh) : C_true_prices Pg Wd K mg Bh := by
  obtain ⟨fd, F⟩ := T.f_true_prices
  have S : FnScope ["order", "rows", "filled", "upper", "prices", "row", "low", "high", "others", "ups", "downs", "place"] ["order", "rows"] (defScope s_true_prices) := ⟨rfl, rfl, rfl, by decide +kernel, rfl, by decide +kernel, by decide +kernel⟩
  refine fn_ok F S T.g_true_prices (F.bindsN fun _ _ _ _ _ _ us hl => match us, hl with | [_, _], _ => rfl) rfl (fun cdv Ar ou st0 Hh Ee hr bb De xx hpre hret hnon => ?_)
  obtain ⟨order, rows⟩ := xx
  refine ⟨_, (.cons .one), ?_⟩
  have h0 : TpOk rows := hpre
  have hn := h0.n
  refine run_asg 2 S.nd (ev_callZ (z := filledP rows) h_filled_prices (hr.mono (by decide)) (ef_one (ev_pub 1)) hn rfl) ?_
  refine run_asg 3 S.nd (ev_callZ (z := upperOf rows) h_upper_of (hr.mono (by decide)) (ef_one (ev_pub 1)) hn rfl) ?_
  refine run_asgN 4 S.nd (ev_dicT (r := rOpt)) ?_
  refine run_forV rfl T.b_reversed (ev_pub 1) (fun i => [.pub (rLst rNat) order, .pub (rLst rRow) rows, .pub (rTab rOpt) (filledP rows), .pub (rDic (rLst rNat)) (upperOf rows), .own (oTab rOpt) (trueAt rows i), .un, .un, .un, .un, .un, .un, .un]) (Le.refl _) (fun b1 hb1 i r hi => ?_) ?_
  · have mr : r ∈ rows := by have := List.mem_of_getElem? hi; simpa using this
    have hil : i < rows.length := by have := (List.getElem?_eq_some_iff.mp hi).1; simpa using this
    have ot := h0.ot i r hi
    have um := h0.um r mr
    have ul := h0.ul r mr
    have f1 := h0.f1 r mr
    have f2 := h0.f2 r mr
    have tl := h0.tl i
    have e : trueAt rows (i + 1) = trueStep (filledP rows) (upperOf rows) (trueAt rows i) r := by unfold trueAt; rw [take_foldl hi]
    rw [e]
    generalize trueAt rows i = t at ot tl
    generalize filledP rows = F at ot f1 f2
    generalize upperOf rows = U at ot um ul
    obtain ⟨lo, hg, c⟩ := r
    obtain ⟨us, hus⟩ := Option.isSome_iff_exists.mp um
    have hus : tget U lo = some us := hus
    have ul : us.length ≤ 40000 := by rw [show (tget U lo).getD [] = us by rw [hus]; rfl] at ul; exact ul
    have ot : ∀ u ∈ us, u ≠ hg → Has F lo u ∧ Has F u lo ∧ Has t u hg ∧ Has t hg u := by rw [show (tget U lo).getD [] = us by rw [hus]; rfl] at ot; exact ot
    have gF : ∀ {x y : Nat}, Has F x y → tget F (x, y) = some (gp F x y) := fun {x y} h => by
      obtain ⟨v, hv⟩ := Option.isSome_iff_exists.mp h
      unfold gp; rw [hv]; rfl
    have gT : ∀ {x y : Nat}, Has t x y → tget t (x, y) = some (gp t x y) := fun {x y} h => by
      obtain ⟨v, hv⟩ := Option.isSome_iff_exists.mp h
      unfold gp; rw [hv]; rfl
    have et : trueStep F U t (lo, hg, c) = tput (tput t (lo, hg) (leastL (gp F lo hg :: (us.filter (· ≠ hg)).map fun p => osum (gp F lo p) (gp t p hg)))) (hg, lo) (leastL (gp F hg lo :: (us.filter (· ≠ hg)).map fun p => osum (gp t hg p) (gp F p lo))) := by
      unfold trueStep
      dsimp only
      rw [hus]; rfl
    rw [et]
    refine ⟨_, _, tg_name 5 S.nd, ?_⟩
    refine run_unp (ev_tup (ef_cons (ev_ixT (ev_pub 5) (ev_nat (i := 0)) .hd) (ef_one (ev_ixT (ev_pub 5) (ev_nat (i := 1)) (.tl .hd))))) (tg_tup rfl (tgs_cons (tg_name 6 S.nd) (tgs_one (tg_name 7 S.nd)))) ?_
    refine run_asgLc 8 (lc_lf (r := rNat) (s := rNat) (f := fun p => !decide (p = hg)) (g := fun p => p) (Γt := fun p => [.pub (rLst rNat) order, .pub (rLst rRow) rows, .pub (rTab rOpt) F, .pub (rDic (rLst rNat)) U, .own (oTab rOpt) t, .pub rRow (lo, hg, c), .pub rNat lo, .pub rNat hg, .un, .un, .un, .pub rNat p]) [("place", 11)] [11] rfl S.nd (Ev.l (ev_dK (hu_of hr) (ev_pub 3) (ev_pub 6) hus)) (sz_le (by omega)) (by show blkC ["order", "rows", "filled", "upper", "prices", "row", "low", "high", "others", "ups", "downs", "place"] (defScope s_true_prices) _ _ = true; decide +kernel) (fun p hp s0 H0 C cl fp0 => tg_name 11 S.nd) (fun p hp s0 H0 C cl fp0 => EvT.is (et_ne sc_nat (ev_pub 11) (ev_pub 7)) rfl) (fun p hp hf s0 H0 C cl fp0 => ev_pub 11)) ?_
    have eo : (us.filter fun p => !decide (p = hg)).map (fun p => p) = us.filter (· ≠ hg) := by
      rw [List.map_id']
      apply List.filter_congr
      intro x _
      simp
    rw [eo]
    have hol : (us.filter (· ≠ hg)).length ≤ 40000 := Nat.le_trans (List.length_filter_le _ _) ul
    have hom : ∀ u ∈ us.filter (· ≠ hg), Has F lo u ∧ Has F u lo ∧ Has t u hg ∧ Has t hg u := fun u m => by
      obtain ⟨a, b⟩ := List.mem_filter.mp m
      exact ot u a (by simpa using b)
    generalize us.filter (· ≠ hg) = os at hol hom
    refine run_pub 8 rfl ?_
    refine run_asgLc 9 (lc_l (r := rOpt) (s := rNat) (g := fun p => osum (gp F lo p) (gp t p hg)) (Γt := fun p => [.pub (rLst rNat) order, .pub (rLst rRow) rows, .pub (rTab rOpt) F, .pub (rDic (rLst rNat)) U, .own (oTab rOpt) t, .pub rRow (lo, hg, c), .pub rNat lo, .pub rNat hg, .pub (rLst rNat) os, .un, .un, .pub rNat p]) [("place", 11)] [11] rfl S.nd (Ev.l (ev_pub 8)) (sz_le (by omega)) (by show blkC ["order", "rows", "filled", "upper", "prices", "row", "low", "high", "others", "ups", "downs", "place"] (defScope s_true_prices) _ _ = true; decide +kernel) (fun p hp s0 H0 C cl fp0 => tg_name 11 S.nd) (fun p hp s0 H0 C cl fp0 => ev_callZ (x := (gp F lo p, gp t p hg)) h_total_prices (hr.mono (by decide)) (ef_cons (ev_dT (hu_of hr) (ev_pub 2) (ev_tup (ef_cons (ev_pub 6) (ef_one (ev_pub 11)))) (gF (hom p hp).1)) (ef_one (Ev.flat (ρ := false) fOpt (ev_dT (hu_of hr) (ev_own (o := oTab rOpt) 4) (ev_tup (ef_cons (ev_pub 11) (ef_one (ev_pub 7)))) (gT (hom p hp).2.2.1))))) trivial rfl)) ?_
    refine run_pub 9 rfl ?_
    refine run_asgLc 10 (lc_l (r := rOpt) (s := rNat) (g := fun p => osum (gp t hg p) (gp F p lo)) (Γt := fun p => [.pub (rLst rNat) order, .pub (rLst rRow) rows, .pub (rTab rOpt) F, .pub (rDic (rLst rNat)) U, .own (oTab rOpt) t, .pub rRow (lo, hg, c), .pub rNat lo, .pub rNat hg, .pub (rLst rNat) os, .pub (rLst rOpt) (os.map fun p => osum (gp F lo p) (gp t p hg)), .un, .pub rNat p]) [("place", 11)] [11] rfl S.nd (Ev.l (ev_pub 8)) (sz_le (by omega)) (by show blkC ["order", "rows", "filled", "upper", "prices", "row", "low", "high", "others", "ups", "downs", "place"] (defScope s_true_prices) _ _ = true; decide +kernel) (fun p hp s0 H0 C cl fp0 => tg_name 11 S.nd) (fun p hp s0 H0 C cl fp0 => ev_callZ (x := (gp t hg p, gp F p lo)) h_total_prices (hr.mono (by decide)) (ef_cons (Ev.flat (ρ := false) fOpt (ev_dT (hu_of hr) (ev_own (o := oTab rOpt) 4) (ev_tup (ef_cons (ev_pub 7) (ef_one (ev_pub 11)))) (gT (hom p hp).2.2.2))) (ef_one (ev_dT (hu_of hr) (ev_pub 2) (ev_tup (ef_cons (ev_pub 11) (ef_one (ev_pub 6)))) (gF (hom p hp).2.1)))) trivial rfl)) ?_
    refine run_pub 10 rfl ?_
    refine run_setT 4 (hu_of hr) rfl (ev_callZ (z := leastL (gp F lo hg :: os.map fun p => osum (gp F lo p) (gp t p hg))) h_least (hr.mono (by decide)) (ef_one (EvN.pub (ev_lst (ei_cons (ev_dT (hu_of hr) (ev_pub 2) (ev_tup (ef_cons (ev_pub 6) (ef_one (ev_pub 7)))) (gF f1)) (ei_star (ev_pub 9) ef_nil1)) (sz_le' (by simp; omega))))) (by simp; omega) (by simp)) (ev_tup (ef_cons (ev_pub 6) (ef_one (ev_pub 7)))) (sz_le (by omega)) ?_
    have tl2 := tput_length t (lo, hg) (leastL (gp F lo hg :: os.map fun p => osum (gp F lo p) (gp t p hg)))
    refine run_setT 4 (hu_of hr) rfl (ev_callZ (z := leastL (gp F hg lo :: os.map fun p => osum (gp t hg p) (gp F p lo))) h_least (hr.mono (by decide)) (ef_one (EvN.pub (ev_lst (ei_cons (ev_dT (hu_of hr) (ev_pub 2) (ev_tup (ef_cons (ev_pub 7) (ef_one (ev_pub 6)))) (gF f2)) (ei_star (ev_pub 10) ef_nil1)) (sz_le' (by simp; omega))))) (by simp; omega) (by simp)) (ev_tup (ef_cons (ev_pub 7) (ef_one (ev_pub 6)))) (sz_le (by omega)) ?_
    exact run_last (To.le (.cons .same (.cons .same (.cons .same (.cons .same (.cons .same (.cons .un (.cons .un (.cons .un (.cons .un (.cons .un (.cons .un (.cons .un .nil)))))))))))) fun _ _ g => g)
  · have e : trueAt rows rows.length = truePrices rows := by unfold trueAt truePrices; rw [show rows.length = rows.reverse.length by simp, List.take_length]
    rw [e]
    refine run_pub 4 rfl ?_
    exact run_ret (ev_pub 4) (hret _ _ rfl)
end Ov

/-! ## F14 -/
namespace Ov
open PySem PySem.Spec PyProof.Rows L2 T

theorem decT {p : Prop} {i : Decidable p} (h : p) : @decide p i = true := @decide_eq_true p i h
theorem decF {p : Prop} {i : Decidable p} (h : ¬ p) : @decide p i = false := @decide_eq_false p i h
theorem nonN {I : Hp} {v : V} (h : rOpt.is I v none) : rOpN.is I v none := h
theorem gp_has {t : Tab (Option Int)} {x y : Nat} (h : Has t x y) : tget t (x, y) = some (gp t x y) := by
  obtain ⟨v, hv⟩ := Option.isSome_iff_exists.mp h
  unfold gp; rw [hv]; rfl
theorem slack_len (F Tr : Tab (Option Int)) (rows : List Row) : (rows.flatMap fun r => [(r.1, r.2.1), (r.2.1, r.1)].filter (isSlack F Tr)).length ≤ 2 * rows.length := by
  have := flatMap_le (f := fun r : Row => [(r.1, r.2.1), (r.2.1, r.1)].filter (isSlack F Tr)) (k := 2) (xs := rows) fun r _ => Nat.le_trans (List.length_filter_le _ _) (by simp)
  omega
abbrev C_slack_ways (Pg : Program) (Wd : World) (K : PySem.W.Frag) (mg : Str → Option Value) (Bh : Heap) : Prop := Cal Pg Wd K mg Bh "slack_ways" 3 ["order", "rows"] (spF (fCons (rLst rNat) (fOne (rLst rRow))) (rLst rPP) (fun x => TpOk x.2) (fun x y => y = slackWays x.2))
set_option maxHeartbeats 2000000 in
theorem c_slack_ways {Pg : Program} {Wd : World} {K : PySem.W.Frag} {mg : Str → Option Value} {Bh : Heap} (T : Hd K mg) (h_filled_prices : C_filled_prices Pg Wd K mg Bh) (h_true_prices : C_true_prices Pg Wd K mg Bh) : C_slack_ways Pg Wd K mg Bh := by
  obtain ⟨fd, F⟩ := T.f_slack_ways
  have S : FnScope ["order", "rows", "filled", "prices", "found", "row", "way"] ["order", "rows"] (defScope s_slack_ways) := ⟨rfl, rfl, rfl, by decide +kernel, rfl, by decide +kernel, by decide +kernel⟩
  refine fn_ok F S T.g_slack_ways (F.bindsN fun _ _ _ _ _ _ us hl => match us, hl with | [_, _], _ => rfl) rfl (fun cdv Ar ou st0 Hh Ee hr bb De xx hpre hret hnon => ?_)
  obtain ⟨order, rows⟩ := xx
  refine ⟨_, (.cons .one), ?_⟩
  have h0 : TpOk rows := hpre
  have hn := h0.n
  have hsw : slackWays rows = rows.flatMap fun r => [(r.1, r.2.1), (r.2.1, r.1)].filter (isSlack (filledP rows) (truePrices rows)) := rfl
  refine run_asg 2 S.nd (ev_callZ (z := filledP rows) h_filled_prices (hr.mono (by decide)) (ef_one (ev_pub 1)) hn rfl) ?_
  refine run_asg 3 S.nd (ev_callZ (z := truePrices rows) h_true_prices (hr.mono (by decide)) (ef_cons (ev_pub 0) (ef_one (ev_pub 1))) h0 rfl) ?_
  have f1 := h0.f1
  have f2 := h0.f2
  have t1 := h0.t1
  have ts := h0.ts
  rw [← show slackWays rows = slackWays (order, rows).2 from rfl, hsw] at hret
  generalize filledP rows = F at f1 f2 ts hret
  generalize truePrices rows = Tr at t1 ts hret
  refine run_asgN 4 S.nd (ev_nilL (r := rPP)) ?_
  refine run_for rfl (ev_pub 1) (fun i => [.pub (rLst rNat) order, .pub (rLst rRow) rows, .pub (rTab rOpt) F, .pub (rTab rOpt) Tr, .own (oLst rPP) ((rows.take i).flatMap fun r => [(r.1, r.2.1), (r.2.1, r.1)].filter (isSlack F Tr)), .un, .un]) (Le.refl _) (fun b1 hb1 i r hi => ?_) ?_
  · have mr := List.mem_of_getElem? hi
    have f1 := f1 r mr
    have f2 := f2 r mr
    have t1 := t1 r mr
    have ts := ts r mr
    have hil := (List.getElem?_eq_some_iff.mp hi).1
    have hsl := slack_len F Tr (rows.take i)
    rw [List.length_take] at hsl
    have e : ((rows.take (i + 1)).flatMap fun r => [(r.1, r.2.1), (r.2.1, r.1)].filter (isSlack F Tr)) = ((rows.take i).flatMap fun r => [(r.1, r.2.1), (r.2.1, r.1)].filter (isSlack F Tr)) ++ [(r.1, r.2.1), (r.2.1, r.1)].filter (isSlack F Tr) := by
      rw [List.take_add_one, hi, List.flatMap_append]; simp
    rw [e]
    generalize ((rows.take i).flatMap fun r => [(r.1, r.2.1), (r.2.1, r.1)].filter (isSlack F Tr)) = acc at hsl
    obtain ⟨lo, hg, c⟩ := r
    have wy : ∀ w ∈ [(lo, hg), (hg, lo)], Has F w.1 w.2 ∧ Has Tr w.1 w.2 ∧ ∀ f, gp F w.1 w.2 = some f → ∃ t, gp Tr w.1 w.2 = some t := fun w m => by
      have m : w = (lo, hg) ∨ w = (hg, lo) := by simpa using m
      rcases m with rfl | rfl
      · exact ⟨f1, t1.1, ts.1⟩
      · exact ⟨f2, t1.2, ts.2⟩
    refine ⟨_, _, tg_name 5 S.nd, ?_⟩
    refine run_forT (xs := [(lo, hg), (hg, lo)]) (r := rPP) rfl (ev_tupL (ei_cons (ev_tup (ef_cons (ev_ixT (ev_pub 5) (ev_nat (i := 0)) .hd) (ef_one (ev_ixT (ev_pub 5) (ev_nat (i := 1)) (.tl .hd))))) (ei_cons (ev_tup (ef_cons (ev_ixT (ev_pub 5) (ev_nat (i := 1)) (.tl .hd)) (ef_one (ev_ixT (ev_pub 5) (ev_nat (i := 0)) .hd)))) ef_nil1))) (fun j => [.pub (rLst rNat) order, .pub (rLst rRow) rows, .pub (rTab rOpt) F, .pub (rTab rOpt) Tr, .own (oLst rPP) (acc ++ ([(lo, hg), (hg, lo)].take j).filter (isSlack F Tr)), .un, .un]) (by rw [List.take_zero, List.filter_nil, List.append_nil]; exact (.cons .same (.cons .same (.cons .same (.cons .same (.cons .same (.cons .un (.cons .un .nil)))))))) (fun b2 hb2 j w hj => ?_) ?_
    · obtain ⟨g1, g2, g3⟩ := wy w (List.mem_of_getElem? hj)
      have e2 : acc ++ ([(lo, hg), (hg, lo)].take (j + 1)).filter (isSlack F Tr) = acc ++ ([(lo, hg), (hg, lo)].take j).filter (isSlack F Tr) ++ (if isSlack F Tr w then [w] else []) := by
        rw [List.take_add_one, hj, List.filter_append, List.append_assoc]
        congr 2
        show [w].filter _ = _
        rw [List.filter_cons]
        rfl
      rw [e2]
      have hl2 : (acc ++ ([(lo, hg), (hg, lo)].take j).filter (isSlack F Tr)).length ≤ acc.length + 2 := by
        rw [List.length_append]
        have := List.length_filter_le (isSlack F Tr) ([(lo, hg), (hg, lo)].take j)
        have h3 : ([(lo, hg), (hg, lo)].take j).length ≤ 2 := by rw [List.length_take]; simp; omega
        omega
      generalize acc ++ ([(lo, hg), (hg, lo)].take j).filter (isSlack F Tr) = acc2 at hl2
      have eF := gp_has g1
      have eT := gp_has g2
      have hs : isSlack F Tr w = match gp F w.1 w.2 with
        | none => true
        | some f => match gp Tr w.1 w.2 with
          | none => false
          | some t => decide (t < f) := rfl
      generalize gp F w.1 w.2 = pf at eF g3 hs
      generalize gp Tr w.1 w.2 = pt at eT g3 hs
      generalize isSlack F Tr w = bb at hs
      refine ⟨_, _, tg_name 6 S.nd, ?_⟩
      cases pf with
      | none =>
        have hs : bb = true := hs
        rw [hs, if_pos rfl]
        refine run_yes (EvW.t (ew_or (u := true) (et_isN vn_opt (ev_dT (hu_of hr) (ev_pub 2) (ev_pub 6) eF)) (by intro h; cases h))) rfl ?_
        refine run_app 4 rfl (ev_pub 6) (sz_le (by omega)) ?_
        exact run_end (run_last (To.le (.cons .same (.cons .same (.cons .same (.cons .same (.cons .same (.cons .un (.cons .un .nil))))))) fun _ _ g => g))
      | some f =>
        obtain ⟨t, rfl⟩ := g3 f rfl
        refine run_if (EvW.t (ew_or (et_isN vn_opt (ev_dT (hu_of hr) (ev_pub 2) (ev_pub 6) eF)) fun _ => ew_or1 (et_gt (Ev.unopt (ev_dT (hu_of hr) (ev_pub 2) (ev_pub 6) eF)) (Ev.unopt (ev_dT (hu_of hr) (ev_pub 3) (ev_pub 6) eT))))) (fun h => ?_) (fun h => run_end ?_)
        · have h : decide (t < f) = true := h
          have hs : bb = true := hs.trans h
          rw [hs, if_pos rfl]
          refine run_app 4 rfl (ev_pub 6) (sz_le (by omega)) ?_
          exact run_end (run_last (To.le (.cons .same (.cons .same (.cons .same (.cons .same (.cons .same (.cons .un (.cons .un .nil))))))) fun _ _ g => g))
        · have h : decide (t < f) = false := h
          have hs : bb = false := hs.trans h
          rw [hs, if_neg (by decide), List.append_nil]
          exact run_last (To.le (.cons .same (.cons .same (.cons .same (.cons .same (.cons .same (.cons .un (.cons .un .nil))))))) fun _ _ g => g)
    · exact run_last (To.le (.cons .same (.cons .same (.cons .same (.cons .same (.cons .same (.cons .un (.cons .un .nil))))))) fun _ _ g => g)
  · rw [List.take_length]
    refine run_pub 4 rfl ?_
    exact run_ret (ev_pub 4) (hret _ _ rfl)
abbrev C_without_slack (Pg : Program) (Wd : World) (K : PySem.W.Frag) (mg : Str → Option Value) (Bh : Heap) : Prop := Cal Pg Wd K mg Bh "without_slack" 4 ["order", "rows"] (spF (fCons (rLst rNat) (fOne (rLst rRow))) (rLst rRow) (fun x => TpOk x.2) (fun x y => y = withoutSlack x.2))
set_option maxHeartbeats 2000000 in
theorem c_without_slack {Pg : Program} {Wd : World} {K : PySem.W.Frag} {mg : Str → Option Value} {Bh : Heap} (T : Hd K mg) (h_slack_ways : C_slack_ways Pg Wd K mg Bh) : C_without_slack Pg Wd K mg Bh := by
  obtain ⟨fd, F⟩ := T.f_without_slack
  have S : FnScope ["order", "rows", "slack", "out", "low", "high", "up", "down", "up_middle", "down_middle"] ["order", "rows"] (defScope s_without_slack) := ⟨rfl, rfl, rfl, by decide +kernel, rfl, by decide +kernel, by decide +kernel⟩
  refine fn_ok F S T.g_without_slack (F.bindsN fun _ _ _ _ _ _ us hl => match us, hl with | [_, _], _ => rfl) rfl (fun cdv Ar ou st0 Hh Ee hr bb De xx hpre hret hnon => ?_)
  obtain ⟨order, rows⟩ := xx
  refine ⟨_, (.cons .one), ?_⟩
  have h0 : TpOk rows := hpre
  have hn := h0.n
  refine run_asg 2 S.nd (ev_callZ (z := slackWays rows) h_slack_ways (hr.mono (by decide)) (ef_cons (ev_pub 0) (ef_one (ev_pub 1))) h0 rfl) ?_
  refine run_asgN 3 S.nd (ev_nilL (r := rRow)) ?_
  rw [← show withoutSlack rows = withoutSlack (order, rows).2 from rfl] at hret
  unfold withoutSlack at hret
  generalize slackWays rows = sl at hret
  refine run_for rfl (ev_pub 1) (fun i => [.pub (rLst rNat) order, .pub (rLst rRow) rows, .pub (rLst rPP) sl, .own (oLst rRow) ((rows.take i).map (thinRow sl)), .un, .un, .un, .un, .un, .un]) (Le.refl _) (fun b1 hb1 i r hi => ?_) ?_
  · have hil := (List.getElem?_eq_some_iff.mp hi).1
    have e : (rows.take (i + 1)).map (thinRow sl) = (rows.take i).map (thinRow sl) ++ [thinRow sl r] := by rw [List.take_add_one, hi, List.map_append]; rfl
    have hlen : ((rows.take i).map (thinRow sl)).length ≤ rows.length := by rw [List.length_map, List.length_take]; omega
    rw [e]
    generalize (rows.take i).map (thinRow sl) = acc at hlen
    obtain ⟨lo, hg, up, dn, um, dm⟩ := r
    refine ⟨_, _, tg_tup rfl (tgs_cons (tg_name 4 S.nd) (tgs_cons (tg_name 5 S.nd) (tgs_cons (tg_name 6 S.nd) (tgs_cons (tg_name 7 S.nd) (tgs_cons (tg_name 8 S.nd) (tgs_one (tg_name 9 S.nd))))))), ?_⟩
    have et : thinRow sl (lo, hg, up, dn, um, dm) = (lo, hg, (if (lo, hg) ∈ sl then none else up), (if (hg, lo) ∈ sl then none else dn), (if (lo, hg) ∈ sl then none else um), (if (hg, lo) ∈ sl then none else dm)) := rfl
    rw [et]
    by_cases q1 : (lo, hg) ∈ sl
    · refine run_yes (et_inD (dTup (dCons dNat (dOne dNat))) (hu65 hr) (ev_tup (ef_cons (ev_pub 4) (ef_one (ev_pub 5)))) (ev_pub 2)) (decT q1) ?_
      refine run_asg2 ev_non (tg_name 6 S.nd) nonN (tg_name (r := rOpN) (x := none) 8 S.nd) ?_
      refine run_end ?_
      by_cases q2 : (hg, lo) ∈ sl
      · refine run_yes (et_inD (dTup (dCons dNat (dOne dNat))) (hu65 hr) (ev_tup (ef_cons (ev_pub 5) (ef_one (ev_pub 4)))) (ev_pub 2)) (decT q2) ?_
        refine run_asg2 ev_non (tg_name 7 S.nd) nonN (tg_name (r := rOpN) (x := none) 9 S.nd) ?_
        refine run_end ?_
        rw [if_pos q1, if_pos q2, if_pos q1, if_pos q2]
        exact run_app 3 rfl (ev_tup (ef_cons (ev_pub 4) (ef_cons (ev_pub 5) (ef_cons (ev_pub 6) (ef_cons (ev_pub 7) (ef_cons (ev_pub 8) (ef_one (ev_pub 9)))))))) (sz_le (by omega)) (run_last (To.le (.cons .same (.cons .same (.cons .same (.cons .same (.cons .un (.cons .un (.cons .un (.cons .un (.cons .un (.cons .un .nil)))))))))) fun _ _ g => g))
      · refine run_no (et_inD (dTup (dCons dNat (dOne dNat))) (hu65 hr) (ev_tup (ef_cons (ev_pub 5) (ef_one (ev_pub 4)))) (ev_pub 2)) (decF q2) ?_
        rw [if_pos q1, if_neg q2, if_pos q1, if_neg q2]
        exact run_app 3 rfl (ev_tup (ef_cons (ev_pub 4) (ef_cons (ev_pub 5) (ef_cons (ev_pub 6) (ef_cons (ev_pub 7) (ef_cons (ev_pub 8) (ef_one (ev_pub 9)))))))) (sz_le (by omega)) (run_last (To.le (.cons .same (.cons .same (.cons .same (.cons .same (.cons .un (.cons .un (.cons .un (.cons .un (.cons .un (.cons .un .nil)))))))))) fun _ _ g => g))
    · refine run_no (et_inD (dTup (dCons dNat (dOne dNat))) (hu65 hr) (ev_tup (ef_cons (ev_pub 4) (ef_one (ev_pub 5)))) (ev_pub 2)) (decF q1) ?_
      by_cases q2 : (hg, lo) ∈ sl
      · refine run_yes (et_inD (dTup (dCons dNat (dOne dNat))) (hu65 hr) (ev_tup (ef_cons (ev_pub 5) (ef_one (ev_pub 4)))) (ev_pub 2)) (decT q2) ?_
        refine run_asg2 ev_non (tg_name 7 S.nd) nonN (tg_name (r := rOpN) (x := none) 9 S.nd) ?_
        refine run_end ?_
        rw [if_neg q1, if_pos q2, if_neg q1, if_pos q2]
        exact run_app 3 rfl (ev_tup (ef_cons (ev_pub 4) (ef_cons (ev_pub 5) (ef_cons (ev_pub 6) (ef_cons (ev_pub 7) (ef_cons (ev_pub 8) (ef_one (ev_pub 9)))))))) (sz_le (by omega)) (run_last (To.le (.cons .same (.cons .same (.cons .same (.cons .same (.cons .un (.cons .un (.cons .un (.cons .un (.cons .un (.cons .un .nil)))))))))) fun _ _ g => g))
      · refine run_no (et_inD (dTup (dCons dNat (dOne dNat))) (hu65 hr) (ev_tup (ef_cons (ev_pub 5) (ef_one (ev_pub 4)))) (ev_pub 2)) (decF q2) ?_
        rw [if_neg q1, if_neg q2, if_neg q1, if_neg q2]
        exact run_app 3 rfl (ev_tup (ef_cons (ev_pub 4) (ef_cons (ev_pub 5) (ef_cons (ev_pub 6) (ef_cons (ev_pub 7) (ef_cons (ev_pub 8) (ef_one (ev_pub 9)))))))) (sz_le (by omega)) (run_last (To.le (.cons .same (.cons .same (.cons .same (.cons .same (.cons .un (.cons .un (.cons .un (.cons .un (.cons .un (.cons .un .nil)))))))))) fun _ _ g => g))
  · rw [List.take_length]
    refine run_pub 3 rfl ?_
    exact run_ret (ev_pub 3) (hret _ _ rfl)
end Ov

/-! ## F15 -/
namespace Ov
open PySem PySem.Spec PyProof.Rows L2 T

def fHs (two : Lab) (k : Nat) : Bool := (tget two k).isSome
def gSm (one two : Lab) (k : Nat) : Int := (tget one k).getD 0 + (tget two k).getD 0
theorem best_list {one two : Lab} (nd : (one.map (·.1)).Nodup) : ((one.map (·.1)).filter (fHs two)).map (gSm one two) = (one.filter fun p => (tget two p.1).isSome).map fun p => p.2 + (tget two p.1).getD 0 := by
  have key : ∀ l : Lab, (∀ p ∈ l, tget one p.1 = some p.2) → ((l.map (·.1)).filter (fHs two)).map (gSm one two) = (l.filter fun p => (tget two p.1).isSome).map fun p => p.2 + (tget two p.1).getD 0 := by
    intro l
    induction l with
    | nil => intro _; rfl
    | cons p l ih =>
      intro h
      have ih := ih fun q m => h q (List.mem_cons_of_mem _ m)
      have hp := h p (by simp)
      rw [List.map_cons, List.filter_cons, List.filter_cons]
      by_cases c : (tget two p.1).isSome = true
      · rw [if_pos (show fHs two p.1 = true from c), if_pos c, List.map_cons, List.map_cons, ih]
        unfold gSm
        rw [hp]; rfl
      · rw [if_neg (show ¬ fHs two p.1 = true from c), if_neg c, ih]
  exact key one fun p m => mem_tget nd m
theorem key_get {κ α : Type} [DecidableEq κ] {t : List (κ × α)} {k : κ} (h : k ∈ t.map (·.1)) : ∃ x, tget t k = some x := by
  have : (tget t k).isSome = true := by
    rw [← tany]
    obtain ⟨p, m, e⟩ := List.mem_map.mp h
    exact List.any_eq_true.mpr ⟨p, m, decide_eq_true e⟩
  exact Option.isSome_iff_exists.mp this
abbrev C_best_sum (Pg : Program) (Wd : World) (K : PySem.W.Frag) (mg : Str → Option Value) (Bh : Heap) : Prop := Cal Pg Wd K mg Bh "best_sum" 1 ["one", "two"] (spF (fCons (rDic rInt) (fOne (rDic rInt))) rOpt (fun x => (x.1.map (·.1)).Nodup ∧ x.1.length ≤ 100000) (fun x y => y = bestSum x.1 x.2))
set_option maxHeartbeats 2000000 in
theorem c_best_sum {Pg : Program} {Wd : World} {K : PySem.W.Frag} {mg : Str → Option Value} {Bh : Heap} (T : Hd K mg)  : C_best_sum Pg Wd K mg Bh := by
  obtain ⟨fd, F⟩ := T.f_best_sum
  have S : FnScope ["one", "two", "sums", "place"] ["one", "two"] (defScope s_best_sum) := ⟨rfl, rfl, rfl, by decide +kernel, rfl, by decide +kernel, by decide +kernel⟩
  refine fn_ok F S T.g_best_sum (F.bindsN fun _ _ _ _ _ _ us hl => match us, hl with | [_, _], _ => rfl) rfl (fun cdv Ar ou st0 Hh Ee hr bb De xx hpre hret hnon => ?_)
  obtain ⟨one, two⟩ := xx
  refine ⟨_, (.cons .one), ?_⟩
  obtain ⟨nd, hl⟩ := hpre
  have nd : (one.map (·.1)).Nodup := nd
  have hl : one.length ≤ 100000 := hl
  refine run_asgDic (r := rInt) (f := fHs two) (g := gSm one two) (Γi := [.pub (rDicR rInt) one, .pub (rDicR rInt) two, .un, .un]) (Γt := fun k => [.pub (rDicR rInt) one, .pub (rDicR rInt) two, .un, .pub rNat k]) 2 0 [("place", 3)] [3] rfl S.nd rfl (.cons (.dic fInt) (.cons (.dic fInt) (.cons .un (.cons .un .nil)))) fInt (sz_le (by omega)) (by show blkC ["one", "two", "sums", "place"] (defScope s_best_sum) _ _ = true; decide +kernel) (fun t ht s0 H0 C cl fp0 => tg_name 3 S.nd) (fun t ht s0 H0 C cl fp0 => et_inKR (hu_of hr) (ev_pub 3) (ev_pub (r := rDicR rInt) 1)) (fun t ht hf s0 H0 C cl fp0 => ?_) ?_
  · obtain ⟨a, ha⟩ := key_get ht
    obtain ⟨c, hc⟩ := Option.isSome_iff_exists.mp (show (tget two t).isSome = true from hf)
    have e : gSm one two t = a + c := by unfold gSm; rw [ha, hc]; rfl
    rw [e]
    exact ev_add (ev_dKR (hu_of hr) (ev_pub (r := rDicR rInt) 0) (ev_pub 3) ha) (ev_dKR (hu_of hr) (ev_pub (r := rDicR rInt) 1) (ev_pub 3) hc)
  · rw [best_list nd]
    have hL : bestSum one two = omin ((one.filter fun p => (tget two p.1).isSome).map fun p => p.2 + (tget two p.1).getD 0) := rfl
    generalize ((one.filter fun p => (tget two p.1).isSome).map fun p => p.2 + (tget two p.1).getD 0) = xs at hL
    refine run_pub 2 rfl ?_
    cases xs with
    | nil =>
      refine run_yes (et_eq sc_nat (ev_len T.b_len (ev_pub 2)) (ev_nat (i := 0))) rfl ?_
      exact run_ret ev_non (hret _ _ hL.symm)
    | cons x xs =>
      refine run_no (et_eq sc_nat (ev_len T.b_len (ev_pub 2)) (ev_nat (i := 0))) (by simp) ?_
      obtain ⟨m, e, hm⟩ := omin_cons x xs
      exact run_ret (Ev.opt (ev_minL rfl T.b_min (ev_pub 2) (by simp) hm)) (hret _ _ (by rw [hL, e]))
abbrev C_grown (Pg : Program) (Wd : World) (K : PySem.W.Frag) (mg : Str → Option Value) (Bh : Heap) : Prop := Cal Pg Wd K mg Bh "grown" 2 ["order", "sums", "others", "place"] (spN (fCons (rLst rNat) (fCons (rLst rSum) (fCons (rDic (rDic rInt)) (fOne rNat)))) (oDic rInt) (fun x => GrownOk x.1 x.2.1 x.2.2.1 x.2.2.2) (fun x y => y = grownL x.1 x.2.1 x.2.2.1 x.2.2.2))
set_option maxHeartbeats 2000000 in
theorem c_grown {Pg : Program} {Wd : World} {K : PySem.W.Frag} {mg : Str → Option Value} {Bh : Heap} (T : Hd K mg) (h_best_sum : C_best_sum Pg Wd K mg Bh) : C_grown Pg Wd K mg Bh := by
  obtain ⟨fd, F⟩ := T.f_grown
  have S : FnScope ["order", "sums", "others", "place", "label", "other", "price", "best"] ["order", "sums", "others", "place"] (defScope s_grown) := ⟨rfl, rfl, rfl, by decide +kernel, rfl, by decide +kernel, by decide +kernel⟩
  refine (fnN_ok F S (F.bindsN fun _ _ _ _ _ _ us hl => match us, hl with | [_, _, _, _], _ => rfl) rfl (fun cdv Ar ou st0 Hh Ee hr bb De xx hpre hret => ?_)).cal T.g_grown
  obtain ⟨order, sums, others, place⟩ := xx
  refine ⟨_, (.cons (.cons (.cons .one))), ?_⟩
  have h0 : GrownOk order sums others place := hpre
  have hn := h0.n
  refine run_asgN 4 S.nd (ev_dicK (r := rInt)) ?_
  refine run_forV rfl T.b_reversed (ev_pub 0) (fun i => [.pub (rLst rNat) order, .pub (rLst rSum) sums, .pub (rDic (rDic rInt)) others, .pub rNat place, .own (oDic rInt) ((order.reverse.take i).foldl (grownStep sums others place) []), .un, .un, .un]) (Le.refl _) (fun b1 hb1 i o hi => ?_) ?_
  · have mo : o ∈ order := by have := List.mem_of_getElem? hi; simpa using this
    have hol := h0.lt o mo
    have hoth := h0.oth o mo
    have GL := grown_len (sums := sums) (others := others) (place := place) (order.reverse.take i) [] (by simp)
    have hlt : (order.reverse.take i).length ≤ 60 := by rw [List.length_take, List.length_reverse]; omega
    simp only [List.length_nil] at GL
    rw [take_foldl hi]
    generalize (order.reverse.take i).foldl (grownStep sums others place) [] = lab at GL
    have ga : sums[o]? = some (sums.getD o (none, none)) := getD_get hol
    have hstep : grownStep sums others place lab o = (match (sums.getD o (none, none)).1 with
      | none => lab
      | some p => if o ≠ place ∧ (match bestSum lab ((tget others o).getD []) with | none => false | some b => decide (b ≤ p)) = true then lab else tput lab o p) := rfl
    have hv : val sums o = (sums.getD o (none, none)).1 := rfl
    generalize sums.getD o (none, none) = sa at ga hstep hv
    obtain ⟨pr, st⟩ := sa
    refine ⟨_, _, tg_name 5 S.nd, ?_⟩
    refine run_asg 6 S.nd (ev_ixT (ev_ix (ev_pub 1) (ev_pub 5) ga) (ev_nat (i := 0)) .hd) ?_
    cases pr with
    | none =>
      have hstep : grownStep sums others place lab o = lab := hstep
      rw [hstep]
      refine run_no (et_notN vn_opt (ev_pub 6)) rfl ?_
      exact run_last (To.le (.cons .same (.cons .same (.cons .same (.cons .same (.cons .same (.cons .un (.cons .un (.cons .un .nil)))))))) fun _ _ g => g)
    | some p =>
      refine run_yes (et_notN vn_opt (ev_pub 6)) rfl ?_
      refine run_asg 7 S.nd ev_non ?_
      by_cases eo : o = place
      · have hstep : grownStep sums others place lab o = tput lab o p := by rw [hstep]; dsimp only; rw [if_neg fun z => z.1 eo]
        rw [hstep]
        refine run_no (et_ne sc_nat (ev_pub 5) (ev_pub 3)) (by simp [eo]) ?_
        refine run_yes (EvW.t (ew_or (u := true) (et_isN vn_opt (ev_pub 7)) (by intro h; cases h))) rfl ?_
        refine run_setK 4 (hu_of hr) rfl (Ev.unopt (ev_pub 6)) (ev_pub 5) (sz_le (by omega)) ?_
        exact run_end (run_end (run_last (To.le (.cons .same (.cons .same (.cons .same (.cons .same (.cons .same (.cons .un (.cons .un (.cons .un .nil)))))))) fun _ _ g => g)))
      · obtain ⟨ol, hol2⟩ := Option.isSome_iff_exists.mp (hoth eo ⟨p, hv⟩)
        have eol : (tget others o).getD [] = ol := by rw [hol2]; rfl
        rw [eol] at hstep
        refine run_yes (et_ne sc_nat (ev_pub 5) (ev_pub 3)) (by simp [eo]) ?_
        refine run_asg 7 S.nd (Ev.flat (ρ := false) fOpt (ev_callZ (x := (lab, ol)) (z := bestSum lab ol) h_best_sum (hr.mono (by decide)) (ef_cons (ev_own (o := oDic rInt) 4) (ef_one (Ev.w (ev_dK (hu_of hr) (ev_pub 2) (ev_pub 5) hol2)))) ⟨GL.1, (show lab.length ≤ 100000 by omega)⟩ rfl)) ?_
        refine run_end ?_
        generalize bestSum lab ol = bs at hstep
        cases bs with
        | none =>
          have hstep : grownStep sums others place lab o = tput lab o p := by rw [hstep]; dsimp only; rw [if_neg fun z => nomatch z.2]
          rw [hstep]
          refine run_yes (EvW.t (ew_or (u := true) (et_isN vn_opt (ev_pub 7)) (by intro h; cases h))) rfl ?_
          refine run_setK 4 (hu_of hr) rfl (Ev.unopt (ev_pub 6)) (ev_pub 5) (sz_le (by omega)) ?_
          exact run_end (run_end (run_last (To.le (.cons .same (.cons .same (.cons .same (.cons .same (.cons .same (.cons .un (.cons .un (.cons .un .nil)))))))) fun _ _ g => g)))
        | some bb =>
          refine run_if (EvW.t (ew_or (et_isN vn_opt (ev_pub 7)) fun _ => ew_or1 (et_gt (Ev.unopt (ev_pub 7)) (Ev.unopt (ev_pub 6))))) (fun h => ?_) (fun h => run_end ?_)
          · have h : decide (p < bb) = true := h
            have h := of_decide_eq_true h
            have hstep : grownStep sums others place lab o = tput lab o p := by
              rw [hstep]; dsimp only; rw [if_neg fun z => by have := of_decide_eq_true z.2; omega]
            rw [hstep]
            refine run_setK 4 (hu_of hr) rfl (Ev.unopt (ev_pub 6)) (ev_pub 5) (sz_le (by omega)) ?_
            exact run_end (run_end (run_last (To.le (.cons .same (.cons .same (.cons .same (.cons .same (.cons .same (.cons .un (.cons .un (.cons .un .nil)))))))) fun _ _ g => g)))
          · have h : decide (p < bb) = false := h
            have h := of_decide_eq_false h
            have hstep : grownStep sums others place lab o = lab := by
              rw [hstep]; dsimp only; rw [if_pos ⟨eo, decide_eq_true (by omega)⟩]
            rw [hstep]
            exact run_end (run_last (To.le (.cons .same (.cons .same (.cons .same (.cons .same (.cons .same (.cons .un (.cons .un (.cons .un .nil)))))))) fun _ _ g => g))
  · have e : (order.reverse.take order.length).foldl (grownStep sums others place) [] = grownL order sums others place := by unfold grownL; rw [show order.length = order.reverse.length by simp, List.take_length]
    rw [e]
    exact run_retN 4 rfl (hret _ rfl)
abbrev C_entries (Pg : Program) (Wd : World) (K : PySem.W.Frag) (mg : Str → Option Value) (Bh : Heap) : Prop := Cal Pg Wd K mg Bh "entries" 1 ["label"] (spF (fOne (rDic rInt)) (rLst (r2 rNat rInt)) (fun x => x.length < 64) (fun x y => y = entriesL x))
set_option maxHeartbeats 2000000 in
theorem c_entries {Pg : Program} {Wd : World} {K : PySem.W.Frag} {mg : Str → Option Value} {Bh : Heap} (T : Hd K mg)  : C_entries Pg Wd K mg Bh := by
  obtain ⟨fd, F⟩ := T.f_entries
  have S : FnScope ["label", "place"] ["label"] (defScope s_entries) := ⟨rfl, rfl, rfl, by decide +kernel, rfl, by decide +kernel, by decide +kernel⟩
  refine fn_ok F S T.g_entries (F.bindsN fun _ _ _ _ _ _ us hl => match us, hl with | [_], _ => rfl) rfl (fun cdv Ar ou st0 Hh Ee hr bb De xx hpre hret hnon => ?_)
  obtain ⟨label, rfl⟩ : ∃ y, y = xx := ⟨xx, rfl⟩
  refine ⟨_, .one, ?_⟩
  have hl : label.length < 64 := hpre
  have hle : ((label.map (·.1)).mergeSort (fun a b => decide (a ≤ b))).length = label.length := by simp
  refine run_ret (EvN.pub (ev_lc (lc_l (r := r2 rNat rInt) (g := fun k => (k, (tget label k).getD 0)) (Γt := fun k => [.pub (rDic rInt) label, .pub rNat k]) [("place", 1)] [1] rfl S.nd (EvN.l (ev_sortK rfl T.b_sorted (ev_pub 0) hl)) (sz_le (by omega)) (by show blkC ["label", "place"] (defScope s_entries) _ _ = true; decide +kernel) (fun t ht s0 H0 C cl fp0 => tg_name 1 S.nd) (fun t ht s0 H0 C cl fp0 => ?_)))) (hret _ _ rfl)
  have mt : t ∈ label.map (·.1) := (List.mergeSort_perm _ _).mem_iff.mp ht
  obtain ⟨x, hx⟩ := key_get mt
  rw [show (tget label t).getD 0 = x by rw [hx]; rfl]
  exact ev_tup (ef_cons (ev_pub 1) (ef_one (ev_dK (hu_of hr) (ev_pub 0) (ev_pub 1) hx)))
abbrev C_labels (Pg : Program) (Wd : World) (K : PySem.W.Frag) (mg : Str → Option Value) (Bh : Heap) : Prop := Cal Pg Wd K mg Bh "labels" 4 ["order", "rows"] (spF (fCons (rLst rNat) (fOne (rLst rRow))) (r2 (rLst (rLst (r2 rNat rInt))) (rLst (rLst (r2 rNat rInt)))) (fun x => LbOk x.1 x.2) (fun x y => y = labelsL x.1 x.2))
set_option maxHeartbeats 2000000 in
theorem c_labels {Pg : Program} {Wd : World} {K : PySem.W.Frag} {mg : Str → Option Value} {Bh : Heap} (T : Hd K mg) (h_up_sums : C_up_sums Pg Wd K mg Bh) (h_down_sums : C_down_sums Pg Wd K mg Bh) (h_grown : C_grown Pg Wd K mg Bh) (h_entries : C_entries Pg Wd K mg Bh) : C_labels Pg Wd K mg Bh := by
  obtain ⟨fd, F⟩ := T.f_labels
  have S : FnScope ["order", "rows", "forward", "backward", "place", "ups", "downs", "places"] ["order", "rows"] (defScope s_labels) := ⟨rfl, rfl, rfl, by decide +kernel, rfl, by decide +kernel, by decide +kernel⟩
  refine fn_ok F S T.g_labels (F.bindsN fun _ _ _ _ _ _ us hl => match us, hl with | [_, _], _ => rfl) rfl (fun cdv Ar ou st0 Hh Ee hr bb De xx hpre hret hnon => ?_)
  obtain ⟨order, rows⟩ := xx
  refine ⟨_, (.cons .one), ?_⟩
  have h0 : LbOk order rows := hpre
  have hn := h0.n
  refine run_asgN 2 S.nd (ev_dicK (r := rDic rInt)) ?_
  refine run_asgN 3 S.nd (ev_dicK (r := rDic rInt)) ?_
  refine run_forV rfl T.b_reversed (ev_pub 0) (fun i => [.pub (rLst rNat) order, .pub (rLst rRow) rows, .own (oDic (rDic rInt)) (labAt order rows i).1, .own (oDic (rDic rInt)) (labAt order rows i).2, .un, .un, .un, .un]) (Le.refl _) (fun b1 hb1 i p hi => ?_) ?_
  · obtain ⟨hp, g1, g2⟩ := h0.go i p hi
    have sz := h0.sz i
    have hil : i < order.length := by have := (List.getElem?_eq_some_iff.mp hi).1; simpa using this
    have e : labAt order rows (i + 1) = labStep order rows (labAt order rows i) p := by unfold labAt; rw [take_foldl hi]
    rw [e]
    generalize labAt order rows i = Dd at g1 g2 sz
    obtain ⟨fw, bw⟩ := Dd
    refine ⟨_, _, tg_name 4 S.nd, ?_⟩
    refine run_asgN 5 S.nd (ev_callNF (y := (order, sumsOver order.length rows p true, bw, p)) (z := grownL order (sumsOver order.length rows p true) bw p) (flat_oDic fInt) h_grown (hr.mono (by decide)) (ef_cons (ρ := false) (Ev.w (ev_pub 0)) (ef_cons (Ev.w (ev_callZ (ρ := true) (z := sumsOver order.length rows p true) h_up_sums (hr.mono (by decide)) (ef_cons (ev_pub 0) (ef_cons (ev_pub 1) (ef_one (ev_pub 4)))) ⟨(show order.length ≤ 1000 by omega), h0.rl, hp⟩ rfl)) (ef_cons (ev_own (o := oDic (rDic rInt)) 3) (ef_one (Ev.w (ev_pub 4)))))) g1 rfl) ?_
    refine run_asgN 6 S.nd (ev_callNF (y := (order, sumsOver order.length rows p false, fw, p)) (z := grownL order (sumsOver order.length rows p false) fw p) (flat_oDic fInt) h_grown (hr.mono (by decide)) (ef_cons (ρ := false) (Ev.w (ev_pub 0)) (ef_cons (Ev.w (ev_callZ (ρ := true) (z := sumsOver order.length rows p false) h_down_sums (hr.mono (by decide)) (ef_cons (ev_pub 0) (ef_cons (ev_pub 1) (ef_one (ev_pub 4)))) ⟨(show order.length ≤ 1000 by omega), h0.rl, hp⟩ rfl)) (ef_cons (ev_own (o := oDic (rDic rInt)) 2) (ef_one (Ev.w (ev_pub 4)))))) g2 rfl) ?_
    refine run_pub 5 rfl ?_
    refine run_pub 6 rfl ?_
    have s1 : fw.length ≤ i := sz.1
    have s2 : bw.length ≤ i := sz.2
    refine run_setK 2 (hu_of hr) rfl (ev_pub 5) (ev_pub 4) (sz_le (by omega)) ?_
    refine run_setK 3 (hu_of hr) rfl (ev_pub 6) (ev_pub 4) (sz_le (by omega)) ?_
    exact run_last (To.le (.cons .same (.cons .same (.cons .same (.cons .same (.cons .un (.cons .un (.cons .un (.cons .un .nil)))))))) fun _ _ g => g)
  · have e : labAt order rows order.length = labDicts order rows := by unfold labAt labDicts; rw [show order.length = order.reverse.length by simp, List.take_length]
    rw [e]
    have ks := h0.ks
    have ls := h0.ls
    rw [← show labelsL order rows = labelsL (order, rows).1 (order, rows).2 from rfl] at hret
    unfold labelsL at hret
    generalize labDicts order rows = Dd at ks ls hret
    obtain ⟨fw, bw⟩ := Dd
    refine run_pub 2 rfl ?_
    refine run_pub 3 rfl ?_
    refine run_asg 7 S.nd (ev_rangeO T.b_range (ev_len T.b_len (ev_pub 0))) ?_
    refine run_ret (ev_tup (ef_cons (EvN.pub (ev_lc (lc_rng (r := rLst (r2 rNat rInt)) (g := fun p => entriesL ((tget fw p).getD [])) (Γt := fun p => [.pub (rLst rNat) order, .pub (rLst rRow) rows, .pub (rDic (rDic rInt)) fw, .pub (rDic (rDic rInt)) bw, .pub rNat p, .un, .un, .pub rRng order.length]) [("place", 4)] [4] rfl S.nd (ev_pub 7) (sz_le (by omega)) (by show blkC ["order", "rows", "forward", "backward", "place", "ups", "downs", "places"] (defScope s_labels) _ _ = true; decide +kernel) (fun t ht s0 H0 C cl fp0 => tg_name 4 S.nd) (fun t ht s0 H0 C cl fp0 => ?_)))) (ef_one (EvN.pub (ev_lc (lc_rng (r := rLst (r2 rNat rInt)) (g := fun p => entriesL ((tget bw p).getD [])) (Γt := fun p => [.pub (rLst rNat) order, .pub (rLst rRow) rows, .pub (rDic (rDic rInt)) fw, .pub (rDic (rDic rInt)) bw, .pub rNat p, .un, .un, .pub rRng order.length]) [("place", 4)] [4] rfl S.nd (ev_pub 7) (sz_le (by omega)) (by show blkC ["order", "rows", "forward", "backward", "place", "ups", "downs", "places"] (defScope s_labels) _ _ = true; decide +kernel) (fun t ht s0 H0 C cl fp0 => tg_name 4 S.nd) (fun t ht s0 H0 C cl fp0 => ?_))))))) (hret _ _ rfl)
    · obtain ⟨l, hl⟩ := Option.isSome_iff_exists.mp (ks t ht).1
      have hl : tget fw t = some l := hl
      exact ev_callZ (x := l) h_entries (hr.mono (by decide)) (ef_one (ev_dK (hu_of hr) (ev_pub 2) (ev_pub 4) hl)) (ls t l (.inl hl)) (by rw [hl]; rfl)
    · obtain ⟨l, hl⟩ := Option.isSome_iff_exists.mp (ks t ht).2
      have hl : tget bw t = some l := hl
      exact ev_callZ (x := l) h_entries (hr.mono (by decide)) (ef_one (ev_dK (hu_of hr) (ev_pub 3) (ev_pub 4) hl)) (ls t l (.inr hl)) (by rw [hl]; rfl)
abbrev C_label_answer (Pg : Program) (Wd : World) (K : PySem.W.Frag) (mg : Str → Option Value) (Bh : Heap) : Prop := Cal Pg Wd K mg Bh "label_answer" 2 ["forward", "backward"] (spF (fCons (rLst (r2 rNat rInt)) (fOne (rLst (r2 rNat rInt)))) rOpt (fun x => x.1.length ≤ 100000) (fun x y => y = labelAnswer x.1 x.2))
set_option maxHeartbeats 2000000 in
theorem c_label_answer {Pg : Program} {Wd : World} {K : PySem.W.Frag} {mg : Str → Option Value} {Bh : Heap} (T : Hd K mg) (h_best_sum : C_best_sum Pg Wd K mg Bh) : C_label_answer Pg Wd K mg Bh := by
  obtain ⟨fd, F⟩ := T.f_label_answer
  have S : FnScope ["forward", "backward"] ["forward", "backward"] (defScope s_label_answer) := ⟨rfl, rfl, rfl, by decide +kernel, rfl, by decide +kernel, by decide +kernel⟩
  refine fn_ok F S T.g_label_answer (F.bindsN fun _ _ _ _ _ _ us hl => match us, hl with | [_, _], _ => rfl) rfl (fun cdv Ar ou st0 Hh Ee hr bb De xx hpre hret hnon => ?_)
  obtain ⟨forward, backward⟩ := xx
  refine ⟨_, (.cons .one), ?_⟩
  have hl : forward.length ≤ 100000 := hpre
  have h1 := toDict_inv forward [] (by simp)
  have h2 : (toDict forward).length ≤ 0 + forward.length := toDict_len forward []
  exact run_ret (ev_callZ (x := (toDict forward, toDict backward)) (z := labelAnswer forward backward) h_best_sum (hr.mono (by decide)) (ef_cons (EvN.pub (ev_dictP rfl T.b_dict (ev_pub 0))) (ef_one (EvN.pub (ev_dictP rfl T.b_dict (ev_pub 1))))) ⟨h1.1, Nat.le_trans h2 (by rw [Nat.zero_add]; exact hl)⟩ rfl) (hret _ _ rfl)
end Ov

/-! ## F16 -/
namespace Ov
open PySem PySem.Spec PyProof.Rows L2 T

theorem foldl_len {β γ : Type} {f : List β → γ → List β} {c : Nat} (h : ∀ t x, (f t x).length ≤ t.length + c) : ∀ (xs : List γ) (t : List β), (xs.foldl f t).length ≤ t.length + c * xs.length
  | [], t => by simp
  | x :: xs, t => by
    rw [List.foldl_cons, List.length_cons, Nat.mul_succ]
    have := foldl_len h xs (f t x)
    have := h t x
    omega
abbrev C_law_numbers (Pg : Program) (Wd : World) (K : PySem.W.Frag) (mg : Str → Option Value) (Bh : Heap) : Prop := Cal Pg Wd K mg Bh "_law_numbers" 1 ["_law_script", "_law_count"] (spF (fCons (rScr K) (fOne rNat)) (rLst rNat) (fun x => x.2 ≤ 100000) (fun x y => y = numbersL x.1 x.2))
set_option maxHeartbeats 2000000 in
theorem c_law_numbers {Pg : Program} {Wd : World} {K : PySem.W.Frag} {mg : Str → Option Value} {Bh : Heap} (T : Hd K mg)  : C_law_numbers Pg Wd K mg Bh := by
  obtain ⟨fd, F⟩ := T.f_law_numbers
  have S : FnScope ["_law_script", "_law_count", "_law_rest", "_law_mixed", "_law_numbers_here", "_law_k", "_law_at", "_law_cell"] ["_law_script", "_law_count"] (defScope s_law_numbers) := ⟨rfl, rfl, rfl, by decide +kernel, rfl, by decide +kernel, by decide +kernel⟩
  refine fn_ok F S T.g_law_numbers (F.bindsN fun _ _ _ _ _ _ us hl => match us, hl with | [_, _], _ => rfl) rfl (fun cdv Ar ou st0 Hh Ee hr bb De xx hpre hret hnon => ?_)
  obtain ⟨s, n⟩ := xx
  refine ⟨_, (.cons .one), ?_⟩
  have hn : n ≤ 100000 := hpre
  have RP := rest_pos s
  have hrest : restL s = (if 0 < s.length then (s.take 63).map absI else [0]) := rfl
  have tk : ((s.take 63).map absI).length ≤ 63 := by rw [List.length_map, List.length_take]; omega
  refine run_asgN 2 S.nd (ev_cat (r := rInt) (EvN.pub (ev_lc (lc_l (r := rInt) (s := rInt) (g := absI) (Γt := fun c => [.pub (rScr K) s, .pub rNat n, .un, .un, .un, .un, .un, .pub rInt c]) [("_law_cell", 7)] [7] rfl S.nd (EvN.l (ev_takeS (ev_pub (r := rScr K) 0) (ev_nat (i := 63)))) (sz_le (by rw [List.length_take]; omega)) (by show blkC ["_law_script", "_law_count", "_law_rest", "_law_mixed", "_law_numbers_here", "_law_k", "_law_at", "_law_cell"] (defScope s_law_numbers) _ _ = true; decide +kernel) (fun t ht s0 H0 C cl fp0 => tg_name 7 S.nd) (fun t ht s0 H0 C cl fp0 => ev_abs T.b_abs (ev_pub 7))))) (EvN.pub (ev_lst (ei_cons (ev_int (i := 0)) ef_nil1) (by simp; exact sz_le' (by decide)))) (sz_le' (by simp; omega))) ?_
  have main : Run bb (bodyX Pg Wd K mg Bh ["_law_script", "_law_count", "_law_rest", "_law_mixed", "_law_numbers_here", "_law_k", "_law_at", "_law_cell"] d_law_numbers.qual (defScope s_law_numbers) (He.fAd K d_law_numbers.at_) cdv Ar ou st0 Hh Ee) ((defBody s_law_numbers).drop 2) De [.pub (rScr K) s, .pub rNat n, .own (oLst rInt) (restL s), .un, .un, .un, .un, .un] := by
    refine run_asgLc 3 (lc_l (r := rInt) (s := rInt) (g := mixI) (Γt := fun c => [.pub (rScr K) s, .pub rNat n, .own (oLst rInt) (restL s), .un, .un, .un, .un, .pub rInt c]) [("_law_cell", 7)] [7] rfl S.nd (ev_ownL 2) (sz_le (by omega)) (by show blkC ["_law_script", "_law_count", "_law_rest", "_law_mixed", "_law_numbers_here", "_law_k", "_law_at", "_law_cell"] (defScope s_law_numbers) _ _ = true; decide +kernel) (fun t ht s0 H0 C cl fp0 => tg_name 7 S.nd) (fun t ht s0 H0 C cl fp0 => ev_mod (ev_toint T.b_int (ev_add (ev_mul (ev_pub 7) (ev_int (i := 48271)) (.inr ⟨by decide, by decide⟩)) (ev_int (i := 11)))) (ev_int (i := 2147483647)) (by decide))) ?_
    refine run_asgN 4 S.nd (ev_nilL (r := rNat)) ?_
    refine run_forR rfl T.b_range (ev_pub 1) (by omega) (fun i => [.pub (rScr K) s, .pub rNat n, .own (oLst rInt) (numsAt s i).rest, .own (oLst rInt) (numsAt s i).mixed, .own (oLst rNat) (numsAt s i).out, .un, .un, .un]) (Le.refl _) (fun b1 hb1 i hi => ?_) ?_
    · have NO := nums_ok s i
      have e : numsAt s (i + 1) = numStep (numsAt s i) i := by unfold numsAt; rw [List.range_succ, List.foldl_append]; rfl
      rw [e]
      generalize numsAt s i = st at NO
      obtain ⟨rest, mixed, o⟩ := st
      obtain ⟨h1, h2, h3⟩ := NO
      have h1 : rest.length = (restL s).length := h1
      have h2 : mixed.length = (restL s).length := h2
      have h3 : o.length = i := h3
      have hat : i % rest.length < rest.length := Nat.mod_lt _ (by omega)
      refine ⟨_, _, tg_name 5 S.nd, ?_⟩
      refine run_asg 6 S.nd (Ev.nat (n := i % rest.length) (Ev.is (ev_mod (ev_toint T.b_int (Ev.int (ev_pub 5))) (Ev.int (ev_len T.b_len (ev_own (o := oLst rInt) 2))) (by omega)) (Int.natCast_emod _ _).symm)) ?_
      have es : numStep ⟨rest, mixed, o⟩ i = (if (10 : Int) ^ 18 ≤ rest.getD (i % rest.length) 0 then ⟨rest.set (i % rest.length) (rest.getD (i % rest.length) 0 / 65536), mixed, o ++ [(rest.getD (i % rest.length) 0 % 65536).toNat]⟩
        else ⟨rest, mixed.set (i % rest.length) ((mixed.getD (i % rest.length) 0 * 16807 + 12345 + 7919 * (i : Int)) % 2147483647), o ++ [((rest.getD (i % rest.length) 0 + (mixed.getD (i % rest.length) 0 * 16807 + 12345 + 7919 * (i : Int)) % 2147483647 / 5) % 65536).toNat]⟩) := rfl
      rw [es]
      generalize i % rest.length = at_ at hat
      have ga : rest[at_]? = some (rest.getD at_ 0) := getD_get hat
      have gb : mixed[at_]? = some (mixed.getD at_ 0) := getD_get (by omega)
      generalize rest.getD at_ 0 = v at ga
      generalize mixed.getD at_ 0 = w at gb
      refine run_if (et_ge (ev_ixO 2 rfl (ev_pub 6) ga) (ev_pow (ev_int (i := 10)) (ev_int (i := 18)) ⟨by decide, by decide, by decide⟩)) (fun h => ?_) (fun h => ?_)
      · have h : (10 : Int) ^ 18 ≤ v := of_decide_eq_true h
        rw [if_pos h]
        refine run_app 4 rfl (Ev.nat (n := (v % 65536).toNat) (Ev.is (ev_mod (ev_toint T.b_int (ev_ixO 2 rfl (ev_pub 6) ga)) (ev_int (i := 65536)) (by decide)) (by omega))) (sz_le (by omega)) ?_
        refine run_setL 2 rfl (ev_div (ev_ixO 2 rfl (ev_pub 6) ga) (ev_int (i := 65536)) ⟨by decide, by decide⟩) (ev_pub 6) hat ?_
        exact run_end (run_last (To.le (.cons .same (.cons .same (.cons .same (.cons .same (.cons .same (.cons .un (.cons .un (.cons .un .nil)))))))) fun _ _ g => g))
      · have h : ¬ (10 : Int) ^ 18 ≤ v := of_decide_eq_false h
        rw [if_neg h]
        refine run_setL 3 rfl (ev_mod (ev_toint T.b_int (ev_add (ev_add (ev_mul (ev_ixO 3 rfl (ev_pub 6) gb) (ev_int (i := 16807)) (.inr ⟨by decide, by decide⟩)) (ev_int (i := 12345))) (ev_mul (ev_int (i := 7919)) (Ev.int (ev_pub 5)) (.inl ⟨by decide, by decide⟩)))) (ev_int (i := 2147483647)) (by decide)) (ev_pub 6) (by omega) ?_
        have gc : (mixed.set at_ ((w * 16807 + 12345 + 7919 * (i : Int)) % 2147483647))[at_]? = some ((w * 16807 + 12345 + 7919 * (i : Int)) % 2147483647) := List.getElem?_set_self (by omega)
        refine run_app 4 rfl (Ev.nat (n := ((v + (w * 16807 + 12345 + 7919 * (i : Int)) % 2147483647 / 5) % 65536).toNat) (Ev.is (ev_mod (ev_toint T.b_int (ev_add (ev_ixO 2 rfl (ev_pub 6) ga) (ev_div (ev_ixO 3 rfl (ev_pub 6) gc) (ev_int (i := 5)) ⟨by decide, by decide⟩))) (ev_int (i := 65536)) (by decide)) (by omega))) (sz_le (by omega)) ?_
        exact run_end (run_last (To.le (.cons .same (.cons .same (.cons .same (.cons .same (.cons .same (.cons .un (.cons .un (.cons .un .nil)))))))) fun _ _ g => g))
    · refine run_pub 4 rfl ?_
      exact run_ret (ev_pub 4) (hret _ _ rfl)
  by_cases hs : 0 < s.length
  · rw [if_pos hs] at hrest
    refine run_yes (et_gt (Ev.int (ev_lenS T.b_len (ev_pub (r := rScr K) 0))) (ev_int (i := 0))) (decide_eq_true (by omega)) ?_
    refine run_pub 2 rfl ?_
    refine run_asgN 2 S.nd (ev_init (r := rInt) (ev_pub 2)) ?_
    have e : ((s.take 63).map absI ++ [0]).dropLast = restL s := by rw [hrest, List.dropLast_concat]
    rw [e]
    exact run_end main
  · rw [if_neg hs] at hrest
    refine run_no (et_gt (Ev.int (ev_lenS T.b_len (ev_pub (r := rScr K) 0))) (ev_int (i := 0))) (decide_eq_false (by omega)) ?_
    have e : (s.take 63).map absI ++ [0] = restL s := by
      rw [hrest, List.length_eq_zero_iff.mp (show s.length = 0 by omega)]; rfl
    rw [e]
    exact main
abbrev C_law_price (Pg : Program) (Wd : World) (K : PySem.W.Frag) (mg : Str → Option Value) (Bh : Heap) : Prop := Cal Pg Wd K mg Bh "_law_price" 1 ["_law_drawn"] (spF (fOne rNat) rOpt (fun x => True) (fun x y => y = priceL x))
set_option maxHeartbeats 2000000 in
theorem c_law_price {Pg : Program} {Wd : World} {K : PySem.W.Frag} {mg : Str → Option Value} {Bh : Heap} (T : Hd K mg)  : C_law_price Pg Wd K mg Bh := by
  obtain ⟨fd, F⟩ := T.f_law_price
  have S : FnScope ["_law_drawn"] ["_law_drawn"] (defScope s_law_price) := ⟨rfl, rfl, rfl, by decide +kernel, rfl, by decide +kernel, by decide +kernel⟩
  refine fn_ok F S T.g_law_price (F.bindsN fun _ _ _ _ _ _ us hl => match us, hl with | [_], _ => rfl) rfl (fun cdv Ar ou st0 Hh Ee hr bb De xx hpre hret hnon => ?_)
  obtain ⟨_law_drawn, rfl⟩ : ∃ y, y = xx := ⟨xx, rfl⟩
  refine ⟨_, .one, ?_⟩
  obtain ⟨d, rfl⟩ : ∃ d, d = _law_drawn := ⟨_, rfl⟩
  have hL : priceL d = (if (d : Int) % 6 = 0 then none else if (d : Int) % 36 = 7 then some (1000000 - (d : Int) / 36 % 3) else if (d : Int) % 6 = 1 then some (1 + (d : Int) / 6 * 9973 % 1000000) else some (1 + (d : Int) / 6 % 9)) := rfl
  rw [hL] at hret
  refine run_if (et_eq sc_int (ev_mod (ev_toint T.b_int (Ev.int (ev_pub 0))) (ev_int (i := 6)) (by decide)) (ev_int (i := 0))) (fun h => ?_) (fun h => run_end ?_)
  · have h : (d : Int) % 6 = 0 := of_decide_eq_true h
    exact run_ret ev_non (hret _ _ (by rw [if_pos h]))
  · have h1 : ¬ (d : Int) % 6 = 0 := of_decide_eq_false h
    rw [if_neg h1] at hret
    refine run_if (et_eq sc_int (ev_mod (ev_toint T.b_int (Ev.int (ev_pub 0))) (ev_int (i := 36)) (by decide)) (ev_int (i := 7))) (fun h => ?_) (fun h => run_end ?_)
    · have h : (d : Int) % 36 = 7 := of_decide_eq_true h
      exact run_ret (Ev.opt (ev_sub (ev_int (i := 1000000)) (ev_mod (ev_toint T.b_int (ev_div (Ev.int (ev_pub 0)) (ev_int (i := 36)) ⟨by decide, by decide⟩)) (ev_int (i := 3)) (by decide)))) (hret _ _ (by rw [if_pos h]))
    · have h2 : ¬ (d : Int) % 36 = 7 := of_decide_eq_false h
      rw [if_neg h2] at hret
      refine run_if (et_eq sc_int (ev_mod (ev_toint T.b_int (Ev.int (ev_pub 0))) (ev_int (i := 6)) (by decide)) (ev_int (i := 1))) (fun h => ?_) (fun h => run_end ?_)
      · have h : (d : Int) % 6 = 1 := of_decide_eq_true h
        exact run_ret (Ev.opt (ev_add (ev_int (i := 1)) (ev_mod (ev_toint T.b_int (ev_mul (ev_div (Ev.int (ev_pub 0)) (ev_int (i := 6)) ⟨by decide, by decide⟩) (ev_int (i := 9973)) (.inr ⟨by decide, by decide⟩))) (ev_int (i := 1000000)) (by decide)))) (hret _ _ (by rw [if_pos h]))
      · have h3 : ¬ (d : Int) % 6 = 1 := of_decide_eq_false h
        exact run_ret (Ev.opt (ev_add (ev_int (i := 1)) (ev_mod (ev_toint T.b_int (ev_div (Ev.int (ev_pub 0)) (ev_int (i := 6)) ⟨by decide, by decide⟩)) (ev_int (i := 9)) (by decide)))) (hret _ _ (by rw [if_neg h3]))

theorem ln_len {n a b : Nat} {ls : List Link} (h : LnOk n a b ls) : ls.length ≤ n * n := by
  have nd : (ls.map lkey).Nodup := by
    unfold List.Nodup
    rw [List.pairwise_map]
    exact h.srt.imp fun h => ltP_ne h
  have := pp_len (n := n) nd fun p m => by
    obtain ⟨l, ml, rfl⟩ := List.mem_map.mp m
    have := h.lt l ml
    show l.1 < n ∧ l.2.1 < n
    omega
  rwa [List.length_map] at this
abbrev C_law_net (Pg : Program) (Wd : World) (K : PySem.W.Frag) (mg : Str → Option Value) (Bh : Heap) : Prop := Cal Pg Wd K mg Bh "_law_net" 2 ["_law_numbers_here", "_law_at", "_law_count"] (spF (fCons (rLst rNat) (fCons rNat (fOne rNat))) rNet (fun x => x.2.2 ≤ 14 ∧ x.2.1 + 9 * x.2.2 ≤ x.1.length) (fun x y => y = lawNetL x.1 x.2.1 x.2.2))
set_option maxHeartbeats 2000000 in
theorem c_law_net {Pg : Program} {Wd : World} {K : PySem.W.Frag} {mg : Str → Option Value} {Bh : Heap} (T : Hd K mg) (h_law_price : C_law_price Pg Wd K mg Bh) : C_law_net Pg Wd K mg Bh := by
  obtain ⟨fd, F⟩ := T.f_law_net
  have S : FnScope ["_law_numbers_here", "_law_at", "_law_count", "_law_links", "_law_a", "_law_b", "_law_drawn"] ["_law_numbers_here", "_law_at", "_law_count"] (defScope s_law_net) := ⟨rfl, rfl, rfl, by decide +kernel, rfl, by decide +kernel, by decide +kernel⟩
  refine fn_ok F S T.g_law_net (F.bindsN fun _ _ _ _ _ _ us hl => match us, hl with | [_, _, _], _ => rfl) rfl (fun cdv Ar ou st0 Hh Ee hr bb De xx hpre hret hnon => ?_)
  obtain ⟨ns, at_, n⟩ := xx
  refine ⟨_, (.cons (.cons .one)), ?_⟩
  obtain ⟨h14, hlen⟩ := hpre
  have h14 : n ≤ 14 := h14
  have hlen : at_ + 9 * n ≤ ns.length := hlen
  have hnn : n * n ≤ 14 * 14 := Nat.mul_le_mul h14 h14
  refine run_asgN 3 S.nd (ev_nilL (r := rLink)) ?_
  refine run_forR rfl T.b_range (ev_pub 2) (by omega) (fun a => [.pub (rLst rNat) ns, .pub rNat at_, .pub rNat n, .own (oLst rLink) ((List.range a).foldl (lnRow ns at_ n) []), .un, .un, .un]) (Le.refl _) (fun b1 hb1 a ha => ?_) ?_
  · have LA := ln_all ns at_ n a (by omega)
    rw [List.range_succ, List.foldl_append, List.foldl_cons, List.foldl_nil]
    generalize (List.range a).foldl (lnRow ns at_ n) [] = ls at LA
    have LA1 : LnOk n a (a + 1) ls := ⟨fun l m => by have := LA.lt l m; omega, LA.srt, LA.pr⟩
    refine ⟨_, _, tg_name 4 S.nd, ?_⟩
    refine run_forR2 (m := a + 1) (n := n) rfl T.b_range (ev_addN (ev_pub 4) (ev_nat (i := 1))) (ev_pub 2) (by omega) (by omega) (fun j => [.pub (rLst rNat) ns, .pub rNat at_, .pub rNat n, .own (oLst rLink) (lnIn ns at_ n ls a j), .pub rNat a, .un, .un]) (Le.refl _) (fun b2 hb2 j hj => ?_) ?_
    · have LI := ln_in (ns := ns) (at_ := at_) LA1 j (by omega)
      have e : lnIn ns at_ n ls a (j + 1) = lnStep ns at_ a (lnIn ns at_ n ls a j) (a + 1 + j) := by unfold lnIn; rw [List.range_succ, List.foldl_append]; rfl
      rw [e]
      have hl := ln_len LI
      generalize lnIn ns at_ n ls a j = l2 at hl
      have hb : a + 1 + j < n := by omega
      generalize a + 1 + j = c at hb
      have es : lnStep ns at_ a l2 c = (if (((ns.getD (at_ + 8 * a + c) 0 : Nat) : Int) % 5 < 2) ∨ (c = a + 1 ∧ (0 : Int) < ((ns.getD (at_ + 8 * a + c) 0 : Nat) : Int) % 7) then l2 ++ [(a, c, priceL (ns.getD (at_ + 8 * a + c) 0 / 3), priceL (ns.getD (at_ + 8 * a + c) 0 / 2))] else l2) := rfl
      rw [es]
      have gd : ns[at_ + 8 * a + c]? = some (ns.getD (at_ + 8 * a + c) 0) := getD_get (by omega)
      generalize ns.getD (at_ + 8 * a + c) 0 = d at gd
      refine ⟨_, _, tg_name 5 S.nd, ?_⟩
      refine run_asg 6 S.nd (ev_ix (ev_pub 0) (Ev.nat (n := at_ + 8 * a + c) (Ev.is (ev_add (ev_add (Ev.int (ev_pub 1)) (ev_mul (ev_int (i := 8)) (Ev.int (ev_pub 4)) (.inl ⟨by decide, by decide⟩))) (Ev.int (ev_pub 5))) (by omega))) gd) ?_
      refine run_if (EvW.t (ew_or (et_lt (ev_mod (ev_toint T.b_int (Ev.int (ev_pub 6))) (ev_int (i := 5)) (by decide)) (ev_int (i := 2))) fun _ => ew_or1 (EvW.t (ew_and (et_eq sc_nat (ev_pub 5) (ev_addN (ev_pub 4) (ev_nat (i := 1)))) fun _ => ew_and1 (et_gt (ev_mod (ev_toint T.b_int (Ev.int (ev_pub 6))) (ev_int (i := 7)) (by decide)) (ev_int (i := 0))))))) (fun h => ?_) (fun h => run_end ?_)
      · have h : ((d : Int) % 5 < 2) ∨ (c = a + 1 ∧ (0 : Int) < (d : Int) % 7) := by simpa using h
        rw [if_pos h]
        refine run_app 3 rfl (ev_tup (ef_cons (ev_pub 4) (ef_cons (ev_pub 5) (ef_cons (ev_callZ (x := d / 3) h_law_price (hr.mono (by decide)) (ef_one (Ev.nat (n := d / 3) (Ev.is (ev_div (Ev.int (ev_pub 6)) (ev_int (i := 3)) ⟨by decide, by decide⟩) (by omega)))) trivial rfl) (ef_one (ev_callZ (x := d / 2) h_law_price (hr.mono (by decide)) (ef_one (Ev.nat (n := d / 2) (Ev.is (ev_div (Ev.int (ev_pub 6)) (ev_int (i := 2)) ⟨by decide, by decide⟩) (by omega)))) trivial rfl)))))) (sz_le (by omega)) ?_
        exact run_end (run_last (To.le (.cons .same (.cons .same (.cons .same (.cons .same (.cons .same (.cons .un (.cons .un .nil))))))) fun _ _ g => g))
      · have h : ¬ (((d : Int) % 5 < 2) ∨ (c = a + 1 ∧ (0 : Int) < (d : Int) % 7)) := fun z => by
          have : (decide ((d : Int) % 5 < 2) || (decide (c = a + 1) && decide ((0 : Int) < (d : Int) % 7))) = true := by simpa using z
          exact absurd (this.symm.trans h) (by decide)
        rw [if_neg h]
        exact run_last (To.le (.cons .same (.cons .same (.cons .same (.cons .same (.cons .same (.cons .un (.cons .un .nil))))))) fun _ _ g => g)
    · exact run_last (To.le (.cons .same (.cons .same (.cons .same (.cons .same (.cons .un (.cons .un (.cons .un .nil))))))) fun _ _ g => g)
  · refine run_pub 3 rfl ?_
    exact run_ret (ev_tup (ef_cons (ev_pub 2) (ef_one (ev_pub 3)))) (hret _ _ rfl)
abbrev C_law_order (Pg : Program) (Wd : World) (K : PySem.W.Frag) (mg : Str → Option Value) (Bh : Heap) : Prop := Cal Pg Wd K mg Bh "_law_order" 1 ["_law_numbers_here", "_law_at", "_law_count"] (spF (fCons (rLst rNat) (fCons rNat (fOne rNat))) (rLst rNat) (fun x => x.2.2 ≤ 1000 ∧ x.2.1 + x.2.2 ≤ x.1.length) (fun x y => y = orderL x.1 x.2.1 x.2.2))
set_option maxHeartbeats 2000000 in
theorem c_law_order {Pg : Program} {Wd : World} {K : PySem.W.Frag} {mg : Str → Option Value} {Bh : Heap} (T : Hd K mg)  : C_law_order Pg Wd K mg Bh := by
  obtain ⟨fd, F⟩ := T.f_law_order
  have S : FnScope ["_law_numbers_here", "_law_at", "_law_count", "_law_left", "_law_order_here", "_law_k", "_law_place"] ["_law_numbers_here", "_law_at", "_law_count"] (defScope s_law_order) := ⟨rfl, rfl, rfl, by decide +kernel, rfl, by decide +kernel, by decide +kernel⟩
  refine fn_ok F S T.g_law_order (F.bindsN fun _ _ _ _ _ _ us hl => match us, hl with | [_, _, _], _ => rfl) rfl (fun cdv Ar ou st0 Hh Ee hr bb De xx hpre hret hnon => ?_)
  obtain ⟨ns, at_, n⟩ := xx
  refine ⟨_, (.cons (.cons .one)), ?_⟩
  obtain ⟨h14, hlen⟩ := hpre
  have h14 : n ≤ 1000 := h14
  have hlen : at_ + n ≤ ns.length := hlen
  refine run_asgLc 3 (lc_r (r := rNat) (g := fun k => k) (Γt := fun k => [.pub (rLst rNat) ns, .pub rNat at_, .pub rNat n, .un, .un, .pub rNat k, .un]) [("_law_k", 5)] [5] rfl S.nd T.b_range (ev_pub 2) (sz_le (by omega)) (by show blkC ["_law_numbers_here", "_law_at", "_law_count", "_law_left", "_law_order_here", "_law_k", "_law_place"] (defScope s_law_order) _ _ = true; decide +kernel) (fun t ht s0 H0 C cl fp0 => tg_name 5 S.nd) (fun t ht s0 H0 C cl fp0 => ev_pub 5)) ?_
  rw [List.map_id']
  refine run_pub 3 rfl ?_
  refine run_asgN 4 S.nd (ev_nilL (r := rNat)) ?_
  refine run_forR rfl T.b_range (ev_pub 2) (by omega) (fun i => [.pub (rLst rNat) ns, .pub rNat at_, .pub rNat n, .pub (rLst rNat) (ordAt ns at_ n i).1, .own (oLst rNat) (ordAt ns at_ n i).2, .un, .un]) (Le.refl _) (fun b1 hb1 i hi => ?_) ?_
  · obtain ⟨o1, o2, _⟩ := ord_ok ns at_ n i (by omega)
    have e : ordAt ns at_ n (i + 1) = ordStep ns at_ (ordAt ns at_ n i) i := by unfold ordAt; rw [List.range_succ, List.foldl_append]; rfl
    rw [e]
    generalize ordAt ns at_ n i = st at o1 o2
    obtain ⟨lf, od⟩ := st
    have o1 : lf.length = n - i := o1
    have o2 : od.length = i := o2
    have es : ordStep ns at_ (lf, od) i = (lf.take (ns.getD (at_ + i) 0 % lf.length) ++ lf.drop (ns.getD (at_ + i) 0 % lf.length + 1), od ++ [lf.getD (ns.getD (at_ + i) 0 % lf.length) 0]) := rfl
    rw [es]
    have gd : ns[at_ + i]? = some (ns.getD (at_ + i) 0) := getD_get (by omega)
    generalize ns.getD (at_ + i) 0 = d at gd
    have hp : d % lf.length < lf.length := Nat.mod_lt _ (by omega)
    refine ⟨_, _, tg_name 5 S.nd, ?_⟩
    refine run_asg 6 S.nd (Ev.nat (n := d % lf.length) (Ev.is (ev_mod (ev_toint T.b_int (Ev.int (ev_ix (ev_pub 0) (ev_addN (ev_pub 1) (ev_pub 5)) gd))) (Ev.int (ev_len T.b_len (ev_pub 3))) (by omega)) (Int.natCast_emod _ _).symm)) ?_
    generalize d % lf.length = p at hp
    have gl : lf[p]? = some (lf.getD p 0) := getD_get hp
    refine run_app 4 rfl (ev_ix (ev_pub 3) (ev_pub 6) gl) (sz_le (by omega)) ?_
    refine run_asgN 3 S.nd (ev_cat (r := rNat) (EvN.pub (ev_take (ev_pub 3) (ev_pub 6))) (EvN.pub (ev_drop (ev_pub 3) (ev_addN (ev_pub 6) (ev_nat (i := 1))))) (sz_le' (by rw [List.length_take, List.length_drop]; omega))) ?_
    refine run_pub 3 rfl ?_
    exact run_last (To.le (.cons .same (.cons .same (.cons .same (.cons .same (.cons .same (.cons .un (.cons .un .nil))))))) fun _ _ g => g)
  · refine run_pub 4 rfl ?_
    exact run_ret (ev_pub 4) (hret _ _ rfl)

theorem lp_len (t : Tab Int) (l : Link) : (lpStep t l).length ≤ t.length + 2 := by
  unfold lpStep
  cases l.2.2.1 with
  | none =>
    cases l.2.2.2 with
    | none => dsimp only; omega
    | some q => dsimp only; have := tput_length t (l.2.1, l.1) q; omega
  | some p =>
    have h1 := tput_length t (l.1, l.2.1) p
    cases l.2.2.2 with
    | none => dsimp only; omega
    | some q => dsimp only; have := tput_length (tput t (l.1, l.2.1) p) (l.2.1, l.1) q; omega
theorem lps_len (ls : List Link) : (lawPrices ls).length ≤ 0 + 2 * ls.length := foldl_len lp_len ls []
theorem fw_len (m a : Nat) (t : Tab Int) (b : Nat) : (fwStep m a t b).length ≤ t.length + 1 := by
  unfold fwStep
  cases tget t (a, m) with
  | none => dsimp only; omega
  | some x =>
    cases tget t (m, b) with
    | none => dsimp only; omega
    | some y =>
      dsimp only
      split
      · exact tput_length _ _ _
      · omega
theorem fwr_len (m a j : Nat) (t : Tab Int) : ((List.range j).foldl (fwStep m a) t).length ≤ t.length + j := by
  have := foldl_len (fw_len m a) (List.range j) t
  rw [List.length_range] at this; omega
theorem fwa_len (n m j : Nat) (t : Tab Int) : ((List.range j).foldl (fwRow n m) t).length ≤ t.length + n * j := by
  have := foldl_len (f := fwRow n m) (c := n) (fun t a => fwr_len m a n t) (List.range j) t
  rw [List.length_range] at this; exact this
theorem fwm_len (n j : Nat) (t : Tab Int) : ((List.range j).foldl (fwAll n) t).length ≤ t.length + n * n * j := by
  have := foldl_len (f := fwAll n) (c := n * n) (fun t m => fwa_len n m n t) (List.range j) t
  rw [List.length_range] at this; exact this
abbrev C_law_prices (Pg : Program) (Wd : World) (K : PySem.W.Frag) (mg : Str → Option Value) (Bh : Heap) : Prop := Cal Pg Wd K mg Bh "_law_prices" 1 ["_law_net_here"] (spN (fOne rNet) (oTab rInt) (fun x => x.2.length ≤ 1000) (fun x y => y = lawPrices x.2))
set_option maxHeartbeats 2000000 in
theorem c_law_prices {Pg : Program} {Wd : World} {K : PySem.W.Frag} {mg : Str → Option Value} {Bh : Heap} (T : Hd K mg)  : C_law_prices Pg Wd K mg Bh := by
  obtain ⟨fd, F⟩ := T.f_law_prices
  have S : FnScope ["_law_net_here", "_law_prices_here", "_law_a", "_law_b", "_law_there", "_law_back"] ["_law_net_here"] (defScope s_law_prices) := ⟨rfl, rfl, rfl, by decide +kernel, rfl, by decide +kernel, by decide +kernel⟩
  refine (fnN_ok F S (F.bindsN fun _ _ _ _ _ _ us hl => match us, hl with | [_], _ => rfl) rfl (fun cdv Ar ou st0 Hh Ee hr bb De xx hpre hret => ?_)).cal T.g_law_prices
  obtain ⟨n, ls⟩ := xx
  refine ⟨_, .one, ?_⟩
  have hl : ls.length ≤ 1000 := hpre
  refine run_asgN 1 S.nd (ev_dicT (r := rInt)) ?_
  refine run_for rfl (ev_ixT (ev_pub 0) (ev_nat (i := 1)) (.tl .one)) (fun i => [.pub rNet (n, ls), .own (oTab rInt) (lawPrices (ls.take i)), .un, .un, .un, .un]) (Le.refl _) (fun b1 hb1 i l hi => ?_) ?_
  · have hlen := lps_len (ls.take i)
    rw [List.length_take] at hlen
    have e : lawPrices (ls.take (i + 1)) = lpStep (lawPrices (ls.take i)) l := by unfold lawPrices; rw [take_foldl hi]
    rw [e]
    generalize lawPrices (ls.take i) = t at hlen
    obtain ⟨a, c, th, bk⟩ := l
    refine ⟨_, _, tg_tup rfl (tgs_cons (tg_name 2 S.nd) (tgs_cons (tg_name 3 S.nd) (tgs_cons (tg_name 4 S.nd) (tgs_one (tg_name 5 S.nd))))), ?_⟩
    cases th with
    | none =>
      refine run_no (et_notN vn_opt (ev_pub 4)) rfl ?_
      cases bk with
      | none =>
        refine run_no (et_notN vn_opt (ev_pub 5)) rfl ?_
        exact run_last (To.le (.cons .same (.cons .same (.cons .un (.cons .un (.cons .un (.cons .un .nil)))))) fun _ _ g => g)
      | some q =>
        refine run_yes (et_notN vn_opt (ev_pub 5)) rfl ?_
        refine run_setT 1 (hu_of hr) rfl (Ev.unopt (ev_pub 5)) (ev_tup (ef_cons (ev_pub 3) (ef_one (ev_pub 2)))) (sz_le (by omega)) ?_
        exact run_end (run_last (To.le (.cons .same (.cons .same (.cons .un (.cons .un (.cons .un (.cons .un .nil)))))) fun _ _ g => g))
    | some p =>
      refine run_yes (et_notN vn_opt (ev_pub 4)) rfl ?_
      refine run_setT 1 (hu_of hr) rfl (Ev.unopt (ev_pub 4)) (ev_tup (ef_cons (ev_pub 2) (ef_one (ev_pub 3)))) (sz_le (by omega)) ?_
      refine run_end ?_
      have hl2 := tput_length t (a, c) p
      cases bk with
      | none =>
        refine run_no (et_notN vn_opt (ev_pub 5)) rfl ?_
        exact run_last (To.le (.cons .same (.cons .same (.cons .un (.cons .un (.cons .un (.cons .un .nil)))))) fun _ _ g => g)
      | some q =>
        refine run_yes (et_notN vn_opt (ev_pub 5)) rfl ?_
        refine run_setT 1 (hu_of hr) rfl (Ev.unopt (ev_pub 5)) (ev_tup (ef_cons (ev_pub 3) (ef_one (ev_pub 2)))) (sz_le (by omega)) ?_
        exact run_end (run_last (To.le (.cons .same (.cons .same (.cons .un (.cons .un (.cons .un (.cons .un .nil)))))) fun _ _ g => g))
  · rw [List.take_length]
    exact run_retN 1 rfl (hret _ rfl)
abbrev C_law_sums (Pg : Program) (Wd : World) (K : PySem.W.Frag) (mg : Str → Option Value) (Bh : Heap) : Prop := Cal Pg Wd K mg Bh "_law_sums" 2 ["_law_net_here"] (spF (fOne rNet) (rTab rInt) (fun x => x.2.length ≤ 1000 ∧ x.1 ≤ 200) (fun x y => y = lawSums x))
set_option maxHeartbeats 2000000 in
theorem c_law_sums {Pg : Program} {Wd : World} {K : PySem.W.Frag} {mg : Str → Option Value} {Bh : Heap} (T : Hd K mg) (h_law_prices : C_law_prices Pg Wd K mg Bh) : C_law_sums Pg Wd K mg Bh := by
  obtain ⟨fd, F⟩ := T.f_law_sums
  have S : FnScope ["_law_net_here", "_law_count", "_law_sums_here", "_law_a", "_law_m", "_law_b", "_law_total"] ["_law_net_here"] (defScope s_law_sums) := ⟨rfl, rfl, rfl, by decide +kernel, rfl, by decide +kernel, by decide +kernel⟩
  refine fn_ok F S T.g_law_sums (F.bindsN fun _ _ _ _ _ _ us hl => match us, hl with | [_], _ => rfl) rfl (fun cdv Ar ou st0 Hh Ee hr bb De xx hpre hret hnon => ?_)
  obtain ⟨n, ls⟩ := xx
  refine ⟨_, .one, ?_⟩
  obtain ⟨hl, hn⟩ := hpre
  have hl : ls.length ≤ 1000 := hl
  have hn : n ≤ 200 := hn
  have hnn : n * n ≤ 200 * 200 := Nat.mul_le_mul hn hn
  refine run_asg 1 S.nd (ev_ixT (ev_pub 0) (ev_nat (i := 0)) .hd) ?_
  refine run_asgN 2 S.nd (ev_callN (y := (n, ls)) h_law_prices (hr.mono (by decide)) (ef_one (ev_pub 0)) hl) ?_
  have hpl : (lawPrices ls).length ≤ 0 + 2 * ls.length := lps_len ls
  have hdg : ∀ j, ((List.range j).foldl (fun (t : Tab Int) a => tput t (a, a) 0) (lawPrices ls)).length ≤ (lawPrices ls).length + 1 * j := fun j => by
    have := foldl_len (f := fun (t : Tab Int) (a : Nat) => tput t (a, a) 0) (c := 1) (fun t a => tput_length _ _ _) (List.range j) (lawPrices ls)
    rw [List.length_range] at this; exact this
  refine run_forR rfl T.b_range (ev_pub 1) (by omega) (fun i => [.pub rNet (n, ls), .pub rNat n, .own (oTab rInt) ((List.range i).foldl (fun (t : Tab Int) a => tput t (a, a) 0) (lawPrices ls)), .un, .un, .un, .un]) (Le.refl _) (fun b1 hb1 i hi => ?_) ?_
  · have hd := hdg i
    rw [List.range_succ, List.foldl_append, List.foldl_cons, List.foldl_nil]
    generalize (List.range i).foldl (fun (t : Tab Int) a => tput t (a, a) 0) (lawPrices ls) = t at hd
    refine ⟨_, _, tg_name 3 S.nd, ?_⟩
    refine run_setT 2 (hu_of hr) rfl (ev_int (i := 0)) (ev_tup (ef_cons (ev_pub 3) (ef_one (ev_pub 3)))) (sz_le (by omega)) ?_
    exact run_last (To.le (.cons .same (.cons .same (.cons .same (.cons .un (.cons .un (.cons .un (.cons .un .nil))))))) fun _ _ g => g)
  · have hd := hdg n
    rw [← show lawSums (n, ls) = lawSums (n, ls) from rfl] at hret
    unfold lawSums at hret
    have hd : ((List.range (n, ls).1).foldl (fun (t : Tab Int) a => tput t (a, a) 0) (lawPrices (n, ls).2)).length ≤ 2600 := by
      show ((List.range n).foldl (fun (t : Tab Int) a => tput t (a, a) 0) (lawPrices ls)).length ≤ 2600
      omega
    show Run _ _ _ _ [.pub rNet (n, ls), .pub rNat n, .own (oTab rInt) ((List.range (n, ls).1).foldl (fun (t : Tab Int) a => tput t (a, a) 0) (lawPrices (n, ls).2)), .un, .un, .un, .un]
    generalize (List.range (n, ls).1).foldl (fun (t : Tab Int) a => tput t (a, a) 0) (lawPrices (n, ls).2) = t0 at hd hret
    refine run_forR rfl T.b_range (ev_pub 1) (by omega) (fun i => [.pub rNet (n, ls), .pub rNat n, .own (oTab rInt) ((List.range i).foldl (fwAll n) t0), .un, .un, .un, .un]) (Le.refl _) (fun b1 hb1 m hm => ?_) ?_
    · have h1 := fwm_len n m t0
      have h2 : n * n * m ≤ 200 * 200 * 200 := Nat.mul_le_mul hnn (by omega)
      rw [List.range_succ, List.foldl_append, List.foldl_cons, List.foldl_nil]
      generalize (List.range m).foldl (fwAll n) t0 = t1 at h1
      refine ⟨_, _, tg_name 4 S.nd, ?_⟩
      refine run_forR rfl T.b_range (ev_pub 1) (by omega) (fun i => [.pub rNet (n, ls), .pub rNat n, .own (oTab rInt) ((List.range i).foldl (fwRow n m) t1), .un, .pub rNat m, .un, .un]) (Le.refl _) (fun b2 hb2 a ha => ?_) ?_
      · have h3 := fwa_len n m a t1
        have h4 : n * a ≤ 200 * 200 := Nat.mul_le_mul hn (by omega)
        rw [List.range_succ, List.foldl_append, List.foldl_cons, List.foldl_nil]
        generalize (List.range a).foldl (fwRow n m) t1 = t2 at h3
        refine ⟨_, _, tg_name 3 S.nd, ?_⟩
        refine run_forR rfl T.b_range (ev_pub 1) (by omega) (fun i => [.pub rNet (n, ls), .pub rNat n, .own (oTab rInt) ((List.range i).foldl (fwStep m a) t2), .pub rNat a, .pub rNat m, .un, .un]) (Le.refl _) (fun b3 hb3 c hc => ?_) ?_
        · have h5 := fwr_len m a c t2
          rw [List.range_succ, List.foldl_append, List.foldl_cons, List.foldl_nil]
          generalize (List.range c).foldl (fwStep m a) t2 = t at h5
          have es : fwStep m a t c = (match tget t (a, m), tget t (m, c) with
            | some x, some y => if olt (x + y) (tget t (a, c)) then tput t (a, c) (x + y) else t
            | _, _ => t) := rfl
          rw [es]
          have iT1 : ∀ {Γ : List B} {e1 e2 : Expr}, True := trivial
          refine ⟨_, _, tg_name 5 S.nd, ?_⟩
          cases g1 : tget t (a, m) with
          | none =>
            refine run_no (EvW.t (ew_and (u := true) (et_inT (hu_of hr) (ev_tup (ef_cons (ev_pub 3) (ef_one (ev_pub 4)))) (ev_own (o := oTab rInt) 2)) (by intro h; rw [g1] at h; cases h))) (by rw [g1]; rfl) ?_
            exact run_last (To.le (.cons .same (.cons .same (.cons .same (.cons .same (.cons .same (.cons .un (.cons .un .nil))))))) fun _ _ g => g)
          | some x =>
            cases g2 : tget t (m, c) with
            | none =>
              refine run_no (EvW.t (ew_and (et_inT (hu_of hr) (ev_tup (ef_cons (ev_pub 3) (ef_one (ev_pub 4)))) (ev_own (o := oTab rInt) 2)) fun _ => ew_and1 (et_inT (hu_of hr) (ev_tup (ef_cons (ev_pub 4) (ef_one (ev_pub 5)))) (ev_own (o := oTab rInt) 2)))) (by rw [g1, g2]; rfl) ?_
              exact run_last (To.le (.cons .same (.cons .same (.cons .same (.cons .same (.cons .same (.cons .un (.cons .un .nil))))))) fun _ _ g => g)
            | some y =>
              refine run_yes (EvW.t (ew_and (et_inT (hu_of hr) (ev_tup (ef_cons (ev_pub 3) (ef_one (ev_pub 4)))) (ev_own (o := oTab rInt) 2)) fun _ => ew_and1 (et_inT (hu_of hr) (ev_tup (ef_cons (ev_pub 4) (ef_one (ev_pub 5)))) (ev_own (o := oTab rInt) 2)))) (by rw [g1, g2]; rfl) ?_
              refine run_asg 6 S.nd (ev_add (Ev.flat (ρ := false) fInt (ev_dT (hu_of hr) (ev_own (o := oTab rInt) 2) (ev_tup (ef_cons (ev_pub 3) (ef_one (ev_pub 4)))) g1)) (Ev.flat (ρ := false) fInt (ev_dT (hu_of hr) (ev_own (o := oTab rInt) 2) (ev_tup (ef_cons (ev_pub 4) (ef_one (ev_pub 5)))) g2))) ?_
              dsimp only
              cases g3 : tget t (a, c) with
              | none =>
                refine run_yes (EvW.t (ew_or (u := true) (et_not (et_inT (hu_of hr) (ev_tup (ef_cons (ev_pub 3) (ef_one (ev_pub 5)))) (ev_own (o := oTab rInt) 2))) (by intro h; rw [g3] at h; cases h))) (by rw [g3]; rfl) ?_
                rw [if_pos (show olt (x + y) none = true from rfl)]
                refine run_setT 2 (hu_of hr) rfl (ev_pub 6) (ev_tup (ef_cons (ev_pub 3) (ef_one (ev_pub 5)))) (sz_le (by omega)) ?_
                exact run_end (run_end (run_last (To.le (.cons .same (.cons .same (.cons .same (.cons .same (.cons .same (.cons .un (.cons .un .nil))))))) fun _ _ g => g)))
              | some z =>
                by_cases hlt : x + y < z
                · refine run_yes (EvW.t (ew_or (et_not (et_inT (hu_of hr) (ev_tup (ef_cons (ev_pub 3) (ef_one (ev_pub 5)))) (ev_own (o := oTab rInt) 2))) fun _ => ew_or1 (et_lt (ev_pub 6) (Ev.flat (ρ := false) fInt (ev_dT (hu_of hr) (ev_own (o := oTab rInt) 2) (ev_tup (ef_cons (ev_pub 3) (ef_one (ev_pub 5)))) g3))))) (by rw [g3, decide_eq_true hlt]; rfl) ?_
                  rw [if_pos (show olt (x + y) (some z) = true from decide_eq_true hlt)]
                  refine run_setT 2 (hu_of hr) rfl (ev_pub 6) (ev_tup (ef_cons (ev_pub 3) (ef_one (ev_pub 5)))) (sz_le (by omega)) ?_
                  exact run_end (run_end (run_last (To.le (.cons .same (.cons .same (.cons .same (.cons .same (.cons .same (.cons .un (.cons .un .nil))))))) fun _ _ g => g)))
                · refine run_no (EvW.t (ew_or (et_not (et_inT (hu_of hr) (ev_tup (ef_cons (ev_pub 3) (ef_one (ev_pub 5)))) (ev_own (o := oTab rInt) 2))) fun _ => ew_or1 (et_lt (ev_pub 6) (Ev.flat (ρ := false) fInt (ev_dT (hu_of hr) (ev_own (o := oTab rInt) 2) (ev_tup (ef_cons (ev_pub 3) (ef_one (ev_pub 5)))) g3))))) (by rw [g3, decide_eq_false hlt]; rfl) ?_
                  rw [if_neg (by show ¬ (decide (x + y < z) = true); rw [decide_eq_false hlt]; decide)]
                  exact run_end (run_last (To.le (.cons .same (.cons .same (.cons .same (.cons .same (.cons .same (.cons .un (.cons .un .nil))))))) fun _ _ g => g))
        · exact run_last (To.le (.cons .same (.cons .same (.cons .same (.cons .un (.cons .same (.cons .un (.cons .un .nil))))))) fun _ _ g => g)
      · exact run_last (To.le (.cons .same (.cons .same (.cons .same (.cons .un (.cons .un (.cons .un (.cons .un .nil))))))) fun _ _ g => g)
    · refine run_pub 2 rfl ?_
      exact run_ret (ev_pub 2) (hret _ _ rfl)
end Ov

/-! ## F17 -/
namespace Ov
open PySem PySem.Spec PyProof.Rows L2 T

theorem nd_fresh {road : List Nat} {k : Nat} (nd : road.Nodup) {x : Nat} (h : road[k]? = some x) : x ∉ road.take k := nodup_take nd h
abbrev C_law_road (Pg : Program) (Wd : World) (K : PySem.W.Frag) (mg : Str → Option Value) (Bh : Heap) : Prop := Cal Pg Wd K mg Bh "_law_road" 1 ["_law_prices_here", "_law_road_here", "_law_start", "_law_stop", "_law_total"] (spF (fCons (rTab rInt) (fCons (rLst rNat) (fCons rNat (fCons rNat (fOne rInt))))) rBl (fun x => RoadGood x.1 x.2.1 x.2.2.1 x.2.2.2.1 x.2.2.2.2) (fun x y => y = true))
set_option maxHeartbeats 2000000 in
theorem c_law_road {Pg : Program} {Wd : World} {K : PySem.W.Frag} {mg : Str → Option Value} {Bh : Heap} (T : Hd K mg)  : C_law_road Pg Wd K mg Bh := by
  obtain ⟨fd, F⟩ := T.f_law_road
  have S : FnScope ["_law_prices_here", "_law_road_here", "_law_start", "_law_stop", "_law_total", "_law_found", "_law_k"] ["_law_prices_here", "_law_road_here", "_law_start", "_law_stop", "_law_total"] (defScope s_law_road) := ⟨rfl, rfl, rfl, by decide +kernel, rfl, by decide +kernel, by decide +kernel⟩
  refine fn_ok F S T.g_law_road (F.bindsN fun _ _ _ _ _ _ us hl => match us, hl with | [_, _, _, _, _], _ => rfl) rfl (fun cdv Ar ou st0 Hh Ee hr bb De xx hpre hret hnon => ?_)
  obtain ⟨P, road, s, t, d⟩ := xx
  refine ⟨_, (.cons (.cons (.cons (.cons .one)))), ?_⟩
  have h0 : RoadGood P road s t d := hpre
  have hlen := h0.len
  have hpos : 0 < road.length := by
    have := (List.getElem?_eq_some_iff.mp h0.hd).1; omega
  refine run_no (EvW.t (ew_or (et_not (et_val (ev_isList T.b_isinstance T.b_list (ev_pub 1)))) fun _ => ew_or (et_eq sc_nat (ev_len T.b_len (ev_pub 1)) (ev_nat (i := 0))) fun _ => ew_or (et_ne sc_nat (ev_ix (ev_pub 1) (ev_nat (i := 0)) h0.hd) (ev_pub 2)) fun _ => ew_or1 (et_ne sc_nat (ev_ixI (ev_pub 1) ev_minus (atI_last' h0.ls)) (ev_pub 3)))) (by rw [decide_eq_false (show ¬ road.length = 0 by omega)]; simp) ?_
  refine run_asg 5 S.nd (ev_int (i := 0)) ?_
  refine run_forR rfl T.b_range (n := road.length - 1) (Ev.nat (Ev.is (ev_sub (Ev.int (ev_len T.b_len (ev_pub 1))) (ev_int (i := 1))) (by omega))) (by omega) (fun i => [.pub (rTab rInt) P, .pub (rLst rNat) road, .pub rNat s, .pub rNat t, .pub rInt d, .pub rInt (pathSum P road i), .un]) (Le.refl _) (fun b1 hb1 i hi => ?_) ?_
  · obtain ⟨p, hp⟩ := h0.st i (by omega)
    have ga : road[i]? = some (road.getD i 0) := getD_get (by omega)
    have gb : road[i + 1]? = some (road.getD (i + 1) 0) := getD_get (by omega)
    have e : pathSum P road (i + 1) = pathSum P road i + p := by
      show pathSum P road i + (tget P (road.getD i 0, road.getD (i + 1) 0)).getD 0 = _
      rw [hp]; rfl
    rw [e]
    refine ⟨_, _, tg_name 6 S.nd, ?_⟩
    refine run_no (et_not (et_inT (hu_of hr) (ev_tup (ef_cons (ev_ix (ev_pub 1) (ev_pub 6) ga) (ef_one (ev_ix (ev_pub 1) (ev_addN (ev_pub 6) (ev_nat (i := 1))) gb)))) (ev_pub 0))) (by rw [hp]; rfl) ?_
    refine run_asg 5 S.nd (ev_add (ev_pub 5) (ev_dT (hu_of hr) (ev_pub 0) (ev_tup (ef_cons (ev_ix (ev_pub 1) (ev_pub 6) ga) (ef_one (ev_ix (ev_pub 1) (ev_addN (ev_pub 6) (ev_nat (i := 1))) gb)))) hp)) ?_
    exact run_last (To.le (.cons .same (.cons .same (.cons .same (.cons .same (.cons .same (.cons .same (.cons .un .nil))))))) fun _ _ g => g)
  · rw [h0.tot]
    have hfl : (((List.range road.length).filter (fun _ => true)).map fun k => road.getD k 0).length = road.length := by rw [List.length_map, List.filter_eq_self.mpr (fun _ _ => rfl), List.length_range]
    refine run_ret (ev_and (ev_eq sc_int (ev_pub 5) (ev_pub 4)) (fun _ => ev_one (ev_eq sc_nat (ev_len T.b_len (ev_pub 1)) (ev_len T.b_len (EvN.pub (ρ := true) (ev_lc (lc_rf (r := rNat) (f := fun _ => true) (g := fun k => road.getD k 0) (Γt := fun k => [.pub (rTab rInt) P, .pub (rLst rNat) road, .pub rNat s, .pub rNat t, .pub rInt d, .pub rInt d, .pub rNat k]) [("_law_k", 6)] [6] rfl S.nd T.b_range (ev_len T.b_len (ev_pub 1)) (sz_le (by omega)) (by show blkC ["_law_prices_here", "_law_road_here", "_law_start", "_law_stop", "_law_total", "_law_found", "_law_k"] (defScope s_law_road) _ _ = true; decide +kernel) (fun k hk s0 H0 C cl fp0 => tg_name 6 S.nd) (fun k hk s0 H0 C cl fp0 => ?_) (fun k hk hf s0 H0 C cl fp0 => ev_ix (ev_pub 1) (ev_pub 6) (getD_get hk)))))))) rfl) (hret _ _ ?_)
    · have gk : road[k]? = some (road.getD k 0) := getD_get hk
      refine EvT.is (et_not (et_inD dNat (hu65 hr) (ev_ix (ev_pub 1) (ev_pub 6) gk) (EvN.pub (ρ := true) (ev_take (ev_pub 1) (ev_pub 6))))) ?_
      rw [decF (nd_fresh h0.nd gk)]; rfl
    · rw [hfl]; simp
abbrev C_law_set (Pg : Program) (Wd : World) (K : PySem.W.Frag) (mg : Str → Option Value) (Bh : Heap) : Prop := Cal Pg Wd K mg Bh "_law_set" 1 ["_law_net_here", "_law_a", "_law_b", "_law_price_here"] (spF (fCons rNet (fCons rNat (fCons rNat (fOne rOpt)))) rNet (fun x => x.1.2.length ≤ 1000) (fun x y => y = lawSet x.1 x.2.1 x.2.2.1 x.2.2.2))
set_option maxHeartbeats 2000000 in
theorem c_law_set {Pg : Program} {Wd : World} {K : PySem.W.Frag} {mg : Str → Option Value} {Bh : Heap} (T : Hd K mg)  : C_law_set Pg Wd K mg Bh := by
  obtain ⟨fd, F⟩ := T.f_law_set
  have S : FnScope ["_law_net_here", "_law_a", "_law_b", "_law_price_here", "_law_links", "_law_c", "_law_d", "_law_there", "_law_back"] ["_law_net_here", "_law_a", "_law_b", "_law_price_here"] (defScope s_law_set) := ⟨rfl, rfl, rfl, by decide +kernel, rfl, by decide +kernel, by decide +kernel⟩
  refine fn_ok F S T.g_law_set (F.bindsN fun _ _ _ _ _ _ us hl => match us, hl with | [_, _, _, _], _ => rfl) rfl (fun cdv Ar ou st0 Hh Ee hr bb De xx hpre hret hnon => ?_)
  obtain ⟨⟨n, ls⟩, a, b, p⟩ := xx
  refine ⟨_, (.cons (.cons (.cons .one))), ?_⟩
  have hl : ls.length ≤ 1000 := hpre
  refine run_asgN 4 S.nd (ev_nilL (r := rLink)) ?_
  refine run_for rfl (ev_ixT (ev_pub 0) (ev_nat (i := 1)) (.tl .one)) (fun i => [.pub rNet (n, ls), .pub rNat a, .pub rNat b, .pub rOpt p, .own (oLst rLink) ((ls.take i).map (setLink a b p)), .un, .un, .un, .un]) (Le.refl _) (fun b1 hb1 i l hi => ?_) ?_
  · have hlen : ((ls.take i).map (setLink a b p)).length ≤ 1000 := by rw [List.length_map, List.length_take]; omega
    have e : (ls.take (i + 1)).map (setLink a b p) = (ls.take i).map (setLink a b p) ++ [setLink a b p l] := by rw [List.take_add_one, hi, List.map_append]; rfl
    rw [e]
    generalize (ls.take i).map (setLink a b p) = acc at hlen
    obtain ⟨c, d, th, bk⟩ := l
    have es : setLink a b p (c, d, th, bk) = (c, d, (if (c, d) = (a, b) then p else th), (if (c, d) = (b, a) then p else bk)) := rfl
    rw [es]
    refine ⟨_, _, tg_tup rfl (tgs_cons (tg_name 5 S.nd) (tgs_cons (tg_name 6 S.nd) (tgs_cons (tg_name 7 S.nd) (tgs_one (tg_name 8 S.nd))))), ?_⟩
    by_cases q1 : (c, d) = (a, b)
    · refine run_yes (et_eqD (dTup (dCons dNat (dOne dNat))) hr.units (ev_tup (ef_cons (ev_pub 5) (ef_one (ev_pub 6)))) (ev_tup (ef_cons (ev_pub 1) (ef_one (ev_pub 2))))) (decT q1) ?_
      refine run_asg 7 S.nd (ev_pub 3) ?_
      refine run_end ?_
      rw [if_pos q1]
      by_cases q2 : (c, d) = (b, a)
      · refine run_yes (et_eqD (dTup (dCons dNat (dOne dNat))) hr.units (ev_tup (ef_cons (ev_pub 5) (ef_one (ev_pub 6)))) (ev_tup (ef_cons (ev_pub 2) (ef_one (ev_pub 1))))) (decT q2) ?_
        refine run_asg 8 S.nd (ev_pub 3) ?_
        refine run_end ?_
        rw [if_pos q2]
        exact run_app 4 rfl (ev_tup (ef_cons (ev_pub 5) (ef_cons (ev_pub 6) (ef_cons (ev_pub 7) (ef_one (ev_pub 8)))))) (sz_le (by omega)) (run_last (To.le (.cons .same (.cons .same (.cons .same (.cons .same (.cons .same (.cons .un (.cons .un (.cons .un (.cons .un .nil))))))))) fun _ _ g => g))
      · refine run_no (et_eqD (dTup (dCons dNat (dOne dNat))) hr.units (ev_tup (ef_cons (ev_pub 5) (ef_one (ev_pub 6)))) (ev_tup (ef_cons (ev_pub 2) (ef_one (ev_pub 1))))) (decF q2) ?_
        rw [if_neg q2]
        exact run_app 4 rfl (ev_tup (ef_cons (ev_pub 5) (ef_cons (ev_pub 6) (ef_cons (ev_pub 7) (ef_one (ev_pub 8)))))) (sz_le (by omega)) (run_last (To.le (.cons .same (.cons .same (.cons .same (.cons .same (.cons .same (.cons .un (.cons .un (.cons .un (.cons .un .nil))))))))) fun _ _ g => g))
    · refine run_no (et_eqD (dTup (dCons dNat (dOne dNat))) hr.units (ev_tup (ef_cons (ev_pub 5) (ef_one (ev_pub 6)))) (ev_tup (ef_cons (ev_pub 1) (ef_one (ev_pub 2))))) (decF q1) ?_
      rw [if_neg q1]
      by_cases q2 : (c, d) = (b, a)
      · refine run_yes (et_eqD (dTup (dCons dNat (dOne dNat))) hr.units (ev_tup (ef_cons (ev_pub 5) (ef_one (ev_pub 6)))) (ev_tup (ef_cons (ev_pub 2) (ef_one (ev_pub 1))))) (decT q2) ?_
        refine run_asg 8 S.nd (ev_pub 3) ?_
        refine run_end ?_
        rw [if_pos q2]
        exact run_app 4 rfl (ev_tup (ef_cons (ev_pub 5) (ef_cons (ev_pub 6) (ef_cons (ev_pub 7) (ef_one (ev_pub 8)))))) (sz_le (by omega)) (run_last (To.le (.cons .same (.cons .same (.cons .same (.cons .same (.cons .same (.cons .un (.cons .un (.cons .un (.cons .un .nil))))))))) fun _ _ g => g))
      · refine run_no (et_eqD (dTup (dCons dNat (dOne dNat))) hr.units (ev_tup (ef_cons (ev_pub 5) (ef_one (ev_pub 6)))) (ev_tup (ef_cons (ev_pub 2) (ef_one (ev_pub 1))))) (decF q2) ?_
        rw [if_neg q2]
        exact run_app 4 rfl (ev_tup (ef_cons (ev_pub 5) (ef_cons (ev_pub 6) (ef_cons (ev_pub 7) (ef_one (ev_pub 8)))))) (sz_le (by omega)) (run_last (To.le (.cons .same (.cons .same (.cons .same (.cons .same (.cons .same (.cons .un (.cons .un (.cons .un (.cons .un .nil))))))))) fun _ _ g => g))
  · rw [List.take_length]
    refine run_pub 4 rfl ?_
    exact run_ret (ev_tup (ef_cons (ev_ixT (ev_pub 0) (ev_nat (i := 0)) .hd) (ef_one (ev_pub 4)))) (hret _ _ rfl)

theorem ch_len {before after : List Row} (cs : List Change) (k : Nat) : (chStep before after cs k).length ≤ cs.length + 2 := by
  unfold chStep
  cases before[k]? with
  | none => dsimp only; omega
  | some x =>
    cases after[k]? with
    | none => dsimp only; omega
    | some y =>
      dsimp only
      split <;> split <;> simp
abbrev C_law_changes (Pg : Program) (Wd : World) (K : PySem.W.Frag) (mg : Str → Option Value) (Bh : Heap) : Prop := Cal Pg Wd K mg Bh "_law_changes" 1 ["_law_before", "_law_after"] (spF (fCons (rLst rRow) (fOne (rLst rRow))) (rLst rChange) (fun x => x.1.length = x.2.length ∧ x.2.length ≤ 100000) (fun x y => y = changesL x.1 x.2))
set_option maxHeartbeats 2000000 in
theorem c_law_changes {Pg : Program} {Wd : World} {K : PySem.W.Frag} {mg : Str → Option Value} {Bh : Heap} (T : Hd K mg)  : C_law_changes Pg Wd K mg Bh := by
  obtain ⟨fd, F⟩ := T.f_law_changes
  have S : FnScope ["_law_before", "_law_after", "_law_changes_here", "_law_k", "_law_low", "_law_high"] ["_law_before", "_law_after"] (defScope s_law_changes) := ⟨rfl, rfl, rfl, by decide +kernel, rfl, by decide +kernel, by decide +kernel⟩
  refine fn_ok F S T.g_law_changes (F.bindsN fun _ _ _ _ _ _ us hl => match us, hl with | [_, _], _ => rfl) rfl (fun cdv Ar ou st0 Hh Ee hr bb De xx hpre hret hnon => ?_)
  obtain ⟨before, after⟩ := xx
  refine ⟨_, (.cons .one), ?_⟩
  obtain ⟨he, hl⟩ := hpre
  have he : before.length = after.length := he
  have hl : after.length ≤ 100000 := hl
  refine run_asgN 2 S.nd (ev_nilL (r := rChange)) ?_
  refine run_forR rfl T.b_range (ev_len T.b_len (ev_pub 1)) (by omega) (fun i => [.pub (rLst rRow) before, .pub (rLst rRow) after, .own (oLst rChange) ((List.range i).foldl (chStep before after) []), .un, .un, .un]) (Le.refl _) (fun b1 hb1 i hi => ?_) ?_
  · have hcl : ((List.range i).foldl (chStep before after) []).length ≤ 0 + 2 * i := by
      have := foldl_len (f := chStep before after) (c := 2) (fun cs k => ch_len cs k) (List.range i) []
      rw [List.length_range] at this; exact this
    rw [List.range_succ, List.foldl_append, List.foldl_cons, List.foldl_nil]
    generalize (List.range i).foldl (chStep before after) [] = cs at hcl
    obtain ⟨x, hx⟩ : ∃ x, before[i]? = some x := ⟨_, List.getElem?_eq_getElem (by omega)⟩
    obtain ⟨y, hy⟩ : ∃ y, after[i]? = some y := ⟨_, List.getElem?_eq_getElem hi⟩
    have es : chStep before after cs i = (if x.2.2.2.1 = y.2.2.2.1 then (if x.2.2.1 = y.2.2.1 then cs else cs ++ [(y.1, y.2.1, x.2.2.1, y.2.2.1)]) else (if x.2.2.1 = y.2.2.1 then cs else cs ++ [(y.1, y.2.1, x.2.2.1, y.2.2.1)]) ++ [(y.2.1, y.1, x.2.2.2.1, y.2.2.2.1)]) := by unfold chStep; rw [hx, hy]
    rw [es]
    obtain ⟨xl, xh, xu, xd, xm, xn⟩ := x
    obtain ⟨yl, yh, yu, yd, ym, yn⟩ := y
    dsimp only
    refine ⟨_, _, tg_name 3 S.nd, ?_⟩
    refine run_unp (ev_two2 (ev_ix (ev_pub 1) (ev_pub 3) hy)) (tg_tup rfl (tgs_cons (tg_name 4 S.nd) (tgs_one (tg_name 5 S.nd)))) ?_
    by_cases q1 : xu = yu
    · refine run_no (et_ne sc_opt (ev_ixT (ev_ix (ev_pub 0) (ev_pub 3) hx) (ev_nat (i := 2)) (.tl (.tl .hd))) (ev_ixT (ev_ix (ev_pub 1) (ev_pub 3) hy) (ev_nat (i := 2)) (.tl (.tl .hd)))) (by simp [q1]) ?_
      rw [if_pos q1]
      by_cases q2 : xd = yd
      · refine run_no (et_ne sc_opt (ev_ixT (ev_ix (ev_pub 0) (ev_pub 3) hx) (ev_nat (i := 3)) (.tl (.tl (.tl .hd)))) (ev_ixT (ev_ix (ev_pub 1) (ev_pub 3) hy) (ev_nat (i := 3)) (.tl (.tl (.tl .hd))))) (by simp [q2]) ?_
        rw [if_pos q2]
        exact run_last (To.le (.cons .same (.cons .same (.cons .same (.cons .un (.cons .un (.cons .un .nil)))))) fun _ _ g => g)
      · refine run_yes (et_ne sc_opt (ev_ixT (ev_ix (ev_pub 0) (ev_pub 3) hx) (ev_nat (i := 3)) (.tl (.tl (.tl .hd)))) (ev_ixT (ev_ix (ev_pub 1) (ev_pub 3) hy) (ev_nat (i := 3)) (.tl (.tl (.tl .hd))))) (by simp [q2]) ?_
        rw [if_neg q2]
        refine run_app 2 rfl (ev_tup (ef_cons (ev_pub 5) (ef_cons (ev_pub 4) (ef_cons (ev_ixT (ev_ix (ev_pub 0) (ev_pub 3) hx) (ev_nat (i := 3)) (.tl (.tl (.tl .hd)))) (ef_one (ev_ixT (ev_ix (ev_pub 1) (ev_pub 3) hy) (ev_nat (i := 3)) (.tl (.tl (.tl .hd))))))))) (sz_le (by first | omega | (simp; omega))) ?_
        exact run_end (run_last (To.le (.cons .same (.cons .same (.cons .same (.cons .un (.cons .un (.cons .un .nil)))))) fun _ _ g => g))
    · refine run_yes (et_ne sc_opt (ev_ixT (ev_ix (ev_pub 0) (ev_pub 3) hx) (ev_nat (i := 2)) (.tl (.tl .hd))) (ev_ixT (ev_ix (ev_pub 1) (ev_pub 3) hy) (ev_nat (i := 2)) (.tl (.tl .hd)))) (by simp [q1]) ?_
      rw [if_neg q1]
      refine run_app 2 rfl (ev_tup (ef_cons (ev_pub 4) (ef_cons (ev_pub 5) (ef_cons (ev_ixT (ev_ix (ev_pub 0) (ev_pub 3) hx) (ev_nat (i := 2)) (.tl (.tl .hd))) (ef_one (ev_ixT (ev_ix (ev_pub 1) (ev_pub 3) hy) (ev_nat (i := 2)) (.tl (.tl .hd)))))))) (sz_le (by omega)) ?_
      refine run_end ?_
      by_cases q2 : xd = yd
      · refine run_no (et_ne sc_opt (ev_ixT (ev_ix (ev_pub 0) (ev_pub 3) hx) (ev_nat (i := 3)) (.tl (.tl (.tl .hd)))) (ev_ixT (ev_ix (ev_pub 1) (ev_pub 3) hy) (ev_nat (i := 3)) (.tl (.tl (.tl .hd))))) (by simp [q2]) ?_
        rw [if_pos q2]
        exact run_last (To.le (.cons .same (.cons .same (.cons .same (.cons .un (.cons .un (.cons .un .nil)))))) fun _ _ g => g)
      · refine run_yes (et_ne sc_opt (ev_ixT (ev_ix (ev_pub 0) (ev_pub 3) hx) (ev_nat (i := 3)) (.tl (.tl (.tl .hd)))) (ev_ixT (ev_ix (ev_pub 1) (ev_pub 3) hy) (ev_nat (i := 3)) (.tl (.tl (.tl .hd))))) (by simp [q2]) ?_
        rw [if_neg q2]
        refine run_app 2 rfl (ev_tup (ef_cons (ev_pub 5) (ef_cons (ev_pub 4) (ef_cons (ev_ixT (ev_ix (ev_pub 0) (ev_pub 3) hx) (ev_nat (i := 3)) (.tl (.tl (.tl .hd)))) (ef_one (ev_ixT (ev_ix (ev_pub 1) (ev_pub 3) hy) (ev_nat (i := 3)) (.tl (.tl (.tl .hd))))))))) (sz_le (by first | omega | (simp; omega))) ?_
        exact run_end (run_last (To.le (.cons .same (.cons .same (.cons .same (.cons .un (.cons .un (.cons .un .nil)))))) fun _ _ g => g))
  · refine run_pub 2 rfl ?_
    exact run_ret (ev_pub 2) (hret _ _ rfl)
abbrev C_law_edit (Pg : Program) (Wd : World) (K : PySem.W.Frag) (mg : Str → Option Value) (Bh : Heap) : Prop := Cal Pg Wd K mg Bh "_law_edit" 2 ["_law_net_here", "_law_numbers_here", "_law_at"] (spF (fCons rNet (fCons (rLst rNat) (fOne rNat))) rEdit (fun x => 0 < x.1.2.length ∧ x.2.2 + 2 < x.2.1.length) (fun x y => y = editL x.1 x.2.1 x.2.2))
set_option maxHeartbeats 2000000 in
theorem c_law_edit {Pg : Program} {Wd : World} {K : PySem.W.Frag} {mg : Str → Option Value} {Bh : Heap} (T : Hd K mg) (h_law_price : C_law_price Pg Wd K mg Bh) : C_law_edit Pg Wd K mg Bh := by
  obtain ⟨fd, F⟩ := T.f_law_edit
  have S : FnScope ["_law_net_here", "_law_numbers_here", "_law_at", "_law_place", "_law_a", "_law_b"] ["_law_net_here", "_law_numbers_here", "_law_at"] (defScope s_law_edit) := ⟨rfl, rfl, rfl, by decide +kernel, rfl, by decide +kernel, by decide +kernel⟩
  refine fn_ok F S T.g_law_edit (F.bindsN fun _ _ _ _ _ _ us hl => match us, hl with | [_, _, _], _ => rfl) rfl (fun cdv Ar ou st0 Hh Ee hr bb De xx hpre hret hnon => ?_)
  obtain ⟨⟨n, ls⟩, ns, at_⟩ := xx
  refine ⟨_, (.cons (.cons .one)), ?_⟩
  obtain ⟨hp, hl⟩ := hpre
  have hp : 0 < ls.length := hp
  have hl : at_ + 2 < ns.length := hl
  have g0 : ns[at_]? = some (ns.getD at_ 0) := getD_get (by omega)
  have g1 : ns[at_ + 1]? = some (ns.getD (at_ + 1) 0) := getD_get (by omega)
  have g2 : ns[at_ + 2]? = some (ns.getD (at_ + 2) 0) := getD_get (by omega)
  have hlk : linkOf (n, ls) ns at_ = ls.getD (ns.getD at_ 0 % ls.length) (0, 0, none, none) := rfl
  have he : editL (n, ls) ns at_ = (if ((ns.getD (at_ + 1) 0 : Nat) : Int) % 2 = 1 then ((linkOf (n, ls) ns at_).2.1, (linkOf (n, ls) ns at_).1, priceL (ns.getD (at_ + 2) 0)) else ((linkOf (n, ls) ns at_).1, (linkOf (n, ls) ns at_).2.1, priceL (ns.getD (at_ + 2) 0))) := rfl
  rw [← show editL (n, ls) ns at_ = editL ((n, ls), ns, at_).1 ((n, ls), ns, at_).2.1 ((n, ls), ns, at_).2.2 from rfl, he] at hret
  rw [hlk] at hret
  generalize ns.getD at_ 0 = d0 at g0 hret
  generalize ns.getD (at_ + 1) 0 = d1 at g1 hret
  generalize ns.getD (at_ + 2) 0 = d2 at g2 hret
  refine run_asg 3 S.nd (Ev.nat (n := d0 % ls.length) (Ev.is (ev_mod (ev_toint T.b_int (Ev.int (ev_ix (ev_pub 1) (ev_pub 2) g0))) (Ev.int (ev_len T.b_len (ev_ixT (ev_pub 0) (ev_nat (i := 1)) (.tl .one)))) (by omega)) (Int.natCast_emod _ _).symm)) ?_
  have hm : d0 % ls.length < ls.length := Nat.mod_lt _ hp
  have gl : ls[d0 % ls.length]? = some (ls.getD (d0 % ls.length) (0, 0, none, none)) := getD_get hm
  generalize ls.getD (d0 % ls.length) (0, 0, none, none) = l at gl hret
  obtain ⟨a, b, l3, l4⟩ := l
  refine run_unp (ev_two2 (ev_ix (ev_ixT (ev_pub 0) (ev_nat (i := 1)) (.tl .one)) (ev_pub 3) gl)) (tg_tup rfl (tgs_cons (tg_name 4 S.nd) (tgs_one (tg_name 5 S.nd)))) ?_
  refine run_if (et_eq sc_int (ev_mod (ev_toint T.b_int (Ev.int (ev_ix (ev_pub 1) (ev_addN (ev_pub 2) (ev_nat (i := 1))) g1))) (ev_int (i := 2)) (by decide)) (ev_int (i := 1))) (fun h => ?_) (fun h => run_end ?_)
  · have h : (d1 : Int) % 2 = 1 := of_decide_eq_true h
    rw [if_pos h] at hret
    exact run_ret (ev_tup (ef_cons (ev_pub 5) (ef_cons (ev_pub 4) (ef_one (ev_callZ (x := d2) h_law_price (hr.mono (by decide)) (ef_one (ev_ix (ev_pub 1) (ev_addN (ev_pub 2) (ev_nat (i := 2))) g2)) trivial rfl))))) (hret _ _ rfl)
  · have h : ¬ (d1 : Int) % 2 = 1 := of_decide_eq_false h
    rw [if_neg h] at hret
    exact run_ret (ev_tup (ef_cons (ev_pub 4) (ef_cons (ev_pub 5) (ef_one (ev_callZ (x := d2) h_law_price (hr.mono (by decide)) (ef_one (ev_ix (ev_pub 1) (ev_addN (ev_pub 2) (ev_nat (i := 2))) g2)) trivial rfl))))) (hret _ _ rfl)
end Ov

/-! ## F18 -/
namespace Ov
open PySem PySem.Spec PyProof.Rows L2 T

theorem get_none {t : Tab Int} {k : PP} (h : tget t k = none) : ∀ I : Hp, rOpt.is I .non (tget t k) := fun I => by rw [h]; rfl
theorem get_some {t : Tab Int} {k : PP} : ∀ x, tget t k = some x → ∀ I v, rInt.is I v x → rOpt.is I v (tget t k) := fun x h I v z => by rw [h]; exact z
abbrev C_law_answers (Pg : Program) (Wd : World) (K : PySem.W.Frag) (mg : Str → Option Value) (Bh : Heap) : Prop := Cal Pg Wd K mg Bh "_law_answers" 20 ["_law_net_here", "_law_order_here", "_law_rows", "_law_sums_here"] (spF (fCons rNet (fCons (rLst rNat) (fCons (rLst rRow) (fOne (rTab rInt))))) rBl (fun x => LawNet x.1 ∧ IsOrder x.1.1 x.2.1 ∧ x.2.2.1 = fillL x.1 x.2.1 ∧ x.2.2.2 = lawSums x.1) (fun x y => y = true))
set_option maxHeartbeats 2000000 in
theorem c_law_answers {Pg : Program} {Wd : World} {K : PySem.W.Frag} {mg : Str → Option Value} {Bh : Heap} (T : Hd K mg) (h_law_prices : C_law_prices Pg Wd K mg Bh) (h_labels : C_labels Pg Wd K mg Bh) (h_without_slack : C_without_slack Pg Wd K mg Bh) (h_paper : C_paper Pg Wd K mg Bh) (h_answers : C_answers Pg Wd K mg Bh) (h_answer : C_answer Pg Wd K mg Bh) (h_answer_road : C_answer_road Pg Wd K mg Bh) (h_label_answer : C_label_answer Pg Wd K mg Bh) (h_law_road : C_law_road Pg Wd K mg Bh) (h_check_answer : C_check_answer Pg Wd K mg Bh) : C_law_answers Pg Wd K mg Bh := by
  obtain ⟨fd, F⟩ := T.f_law_answers
  have S : FnScope ["_law_net_here", "_law_order_here", "_law_rows", "_law_sums_here", "_law_prices_here", "_law_forward", "_law_backward", "_law_thin", "_law_s", "_law_told", "_law_t", "_law_due", "_law_road_here"] ["_law_net_here", "_law_order_here", "_law_rows", "_law_sums_here"] (defScope s_law_answers) := ⟨rfl, rfl, rfl, by decide +kernel, rfl, by decide +kernel, by decide +kernel⟩
  refine fn_ok F S T.g_law_answers (F.bindsN fun _ _ _ _ _ _ us hl => match us, hl with | [_, _, _, _], _ => rfl) rfl (fun cdv Ar ou st0 Hh Ee hr bb De xx hpre hret hnon => ?_)
  obtain ⟨⟨n, ls⟩, order, rows, sums⟩ := xx
  refine ⟨_, (.cons (.cons (.cons .one))), ?_⟩
  obtain ⟨LN, hO, hrows, hsums⟩ := hpre
  have LN : LawNet (n, ls) := LN
  have hO : IsOrder n order := hO
  obtain rfl : rows = fillL (n, ls) order := hrows
  obtain rfl : sums = lawSums (n, ls) := hsums
  have hn : n ≤ 14 := LN.n
  have hol : order.length = n := hO.len
  have hll : ls.length ≤ 196 := LN.len
  have olt : ∀ p ∈ order, p < order.length := fun p m => by rw [hol]; exact hO.lt p m
  have A1 : ∀ s, s < n → paperL (n, ls) s = (List.range n).map fun t => tget (lawSums (n, ls)) (s, t) := fun s hs => all_paper LN hO hs
  have A2 : ∀ s, s < n → answersL order (fillL (n, ls) order) s (List.range n) = paperL (n, ls) s := fun s hs => all_answers LN hO hs
  have A3 : ∀ s t, s < n → t < n → (answerL order (fillL (n, ls) order) s t).1 = tget (lawSums (n, ls)) (s, t) := fun s t hs ht => all_answer LN hO hs ht
  have A4 : ∀ s t, s < n → t < n → labelAnswer (entriesL ((tget (labDicts order (fillL (n, ls) order)).1 s).getD [])) (entriesL ((tget (labDicts order (fillL (n, ls) order)).2 t).getD [])) = tget (lawSums (n, ls)) (s, t) := fun s t hs ht => all_label LN hO hs ht
  have A5 : ∀ s t, s < n → t < n → RoadOk order (fillL (n, ls) order) s t := fun s t hs ht => road_ok LN.ok hO LN.small (show n ≤ 16 by omega) hs ht
  have A6 : ∀ s t, s < n → t < n → (tget (lawSums (n, ls)) (s, t) = none ∧ answerRoad order (fillL (n, ls) order) s t = none) ∨ ∃ d ro, tget (lawSums (n, ls)) (s, t) = some d ∧ answerRoad order (fillL (n, ls) order) s t = some ro ∧ RoadGood (lawPrices ls) ro s t d ∧ (∀ p ∈ ro, p < n) ∧ roadSumL ls ro = some d := fun s t hs ht => all_road LN hO hs ht
  have A7 : ∀ s t, s < n → t < n → (answerL order (withoutSlack (fillL (n, ls) order)) s t).1 = tget (lawSums (n, ls)) (s, t) := fun s t hs ht => all_thin LN hO hs ht
  have A8 : ∀ s, s < n → (paperL (n, ls) s).length = n ∧ (paperL (n, ls) s)[s]? = some (some 0) ∧ (∀ w ∈ openWays ls, ∀ d, (paperL (n, ls) s).getD w.1 none = some d → ∃ q, (paperL (n, ls) s).getD w.2.1 none = some q ∧ q ≤ d + w.2.2) ∧ ∀ t, t < n → (paperL (n, ls) s)[t]? = some (tget (lawSums (n, ls)) (s, t)) := fun s hs => paper_ask LN hO hs
  have LB : LbOk order (fillL (n, ls) order) := lb_ok LN.ok hO LN.small (show n ≤ 60 by omega)
  have TP : TpOk (fillL (n, ls) order) := tp_ok LN.ok hO LN.small LN.pos
  have RL : RowsLt order.length (fillL (n, ls) order) := rows_lt LN hO
  have TL : RowsLt order.length (withoutSlack (fillL (n, ls) order)) := thin_lt LN hO
  have nlt : ∀ l ∈ ls, l.1 < n ∧ l.2.1 < n := LN.ok.lt
  have hent : ∀ s, (entriesL ((tget (labDicts order (fillL (n, ls) order)).1 s).getD [])).length ≤ 100000 := fun s => by
    unfold entriesL
    rw [List.length_map, List.length_mergeSort, List.length_map]
    cases e : tget (labDicts order (fillL (n, ls) order)).1 s with
    | none => simp
    | some l => have := LB.ls s l (.inl e); show l.length ≤ _; omega
  have hlab : labelsL order (fillL (n, ls) order) = ((List.range order.length).map fun p => entriesL ((tget (labDicts order (fillL (n, ls) order)).1 p).getD []), (List.range order.length).map fun p => entriesL ((tget (labDicts order (fillL (n, ls) order)).2 p).getD [])) := rfl
  generalize fillL (n, ls) order = rows at A2 A3 A4 A5 A6 A7 LB TP RL TL hent hlab
  generalize lawSums (n, ls) = sums at A1 A3 A4 A6 A7 A8
  refine run_asgN 4 S.nd (ev_callN (y := (n, ls)) h_law_prices (hr.mono (by decide)) (ef_one (ev_pub 0)) (show ls.length ≤ 1000 by omega)) ?_
  refine run_pub 4 rfl ?_
  show Run _ _ _ _ [.pub rNet (n, ls), .pub (rLst rNat) order, .pub (rLst rRow) rows, .pub (rTab rInt) sums, .pub (rTab rInt) (lawPrices ls), .un, .un, .un, .un, .un, .un, .un, .un]
  generalize lawPrices ls = P at A6
  refine run_unp (ev_callZ (x := (order, rows)) (z := (((List.range order.length).map fun p => entriesL ((tget (labDicts order rows).1 p).getD []), (List.range order.length).map fun p => entriesL ((tget (labDicts order rows).2 p).getD [])) : List Lab × List Lab)) h_labels (hr.mono (by decide)) (ef_cons (ev_pub 1) (ef_one (ev_pub 2))) LB hlab) (tg_tup rfl (tgs_cons (tg_name 5 S.nd) (tgs_one (tg_name 6 S.nd)))) ?_
  have gF : ∀ s, s < n → ((List.range order.length).map fun p => entriesL ((tget (labDicts order rows).1 p).getD []))[s]? = some (entriesL ((tget (labDicts order rows).1 s).getD [])) := fun s hs => map_range_get _ (by omega)
  have gB : ∀ s, s < n → ((List.range order.length).map fun p => entriesL ((tget (labDicts order rows).2 p).getD []))[s]? = some (entriesL ((tget (labDicts order rows).2 s).getD [])) := fun s hs => map_range_get _ (by omega)
  show Run _ _ _ _ [.pub rNet (n, ls), .pub (rLst rNat) order, .pub (rLst rRow) rows, .pub (rTab rInt) sums, .pub (rTab rInt) P, .pub (rLst (rLst (r2 rNat rInt))) ((List.range order.length).map fun p => entriesL ((tget (labDicts order rows).1 p).getD [])), .pub (rLst (rLst (r2 rNat rInt))) ((List.range order.length).map fun p => entriesL ((tget (labDicts order rows).2 p).getD [])), .un, .un, .un, .un, .un, .un]
  generalize ((List.range order.length).map fun p => entriesL ((tget (labDicts order rows).1 p).getD [])) = FW at gF
  generalize ((List.range order.length).map fun p => entriesL ((tget (labDicts order rows).2 p).getD [])) = BW at gB
  refine run_asgP 7 S.nd (ev_call h_without_slack (hr.mono (by decide)) (ef_cons (ev_pub 1) (ef_one (ev_pub 2))) TP) (fun th' hth => ?_)
  obtain rfl : th' = withoutSlack rows := hth
  generalize withoutSlack rows = th at A7 TL
  refine run_forR rfl T.b_range (ev_ixT (ev_pub 0) (ev_nat (i := 0)) .hd) (by omega) (fun _ => [.pub rNet (n, ls), .pub (rLst rNat) order, .pub (rLst rRow) rows, .pub (rTab rInt) sums, .pub (rTab rInt) P, .pub (rLst (rLst (r2 rNat rInt))) FW, .pub (rLst (rLst (r2 rNat rInt))) BW, .pub (rLst rRow) th, .un, .un, .un, .un, .un]) (Le.refl _) (fun b1 hb1 s hs => ?_) ?_
  · have A1 := A1 s hs
    have A2 := A2 s hs
    obtain ⟨P1, P2, P3, P4⟩ := A8 s hs
    refine ⟨_, _, tg_name 8 S.nd, ?_⟩
    refine run_asg 9 S.nd (ev_callZ (x := ((n, ls), s)) (z := paperL (n, ls) s) h_paper (hr.mono (by decide)) (ef_cons (ev_pub 0) (ef_one (ev_pub 8))) ⟨(show ls.length ≤ 1000 by omega), (show n ≤ 1000 by omega), hs, nlt⟩ rfl) ?_
    generalize paperL (n, ls) s = told at A1 A2 P1 P2 P3 P4
    have eS : ∀ {Γ0 : List B}, True := trivial
    refine run_no (et_neD (dLst dOpt) hr.units (ev_pub 9) (EvN.pub (ρ := true) (ev_lc (lc_r (r := rOpt) (g := fun t => tget sums (s, t)) (Γt := fun t => [.pub rNet (n, ls), .pub (rLst rNat) order, .pub (rLst rRow) rows, .pub (rTab rInt) sums, .pub (rTab rInt) P, .pub (rLst (rLst (r2 rNat rInt))) FW, .pub (rLst (rLst (r2 rNat rInt))) BW, .pub (rLst rRow) th, .pub rNat s, .pub (rLst rOpt) told, .pub rNat t, .un, .un]) [("_law_t", 10)] [10] rfl S.nd T.b_range (ev_ixT (ev_pub 0) (ev_nat (i := 0)) .hd) (sz_le (by omega)) (by show blkC ["_law_net_here", "_law_order_here", "_law_rows", "_law_sums_here", "_law_prices_here", "_law_forward", "_law_backward", "_law_thin", "_law_s", "_law_told", "_law_t", "_law_due", "_law_road_here"] (defScope s_law_answers) _ _ = true; decide +kernel) (fun t ht s0 H0 C cl fp0 => tg_name 10 S.nd) (fun t ht s0 H0 C cl fp0 => ev_getT (hu_of hr) (ev_pub 3) (ev_tup (ef_cons (ev_pub 8) (ef_one (ev_pub 10)))) get_none get_some))))) (by rw [decT A1]; rfl) ?_
    refine run_no (et_neD (dLst dOpt) hr.units (ev_callZ (x := (order, rows, s, List.range n)) (z := told) h_answers (hr.mono (by decide)) (ef_cons (ev_pub 1) (ef_cons (ev_pub 2) (ef_cons (ev_pub 8) (ef_one (Ev.is (EvN.pub (ρ := true) (ev_lc (lc_r (r := rNat) (g := fun t => t) (Γt := fun t => [.pub rNet (n, ls), .pub (rLst rNat) order, .pub (rLst rRow) rows, .pub (rTab rInt) sums, .pub (rTab rInt) P, .pub (rLst (rLst (r2 rNat rInt))) FW, .pub (rLst (rLst (r2 rNat rInt))) BW, .pub (rLst rRow) th, .pub rNat s, .pub (rLst rOpt) told, .pub rNat t, .un, .un]) [("_law_t", 10)] [10] rfl S.nd T.b_range (ev_ixT (ev_pub 0) (ev_nat (i := 0)) .hd) (sz_le (by omega)) (by show blkC ["_law_net_here", "_law_order_here", "_law_rows", "_law_sums_here", "_law_prices_here", "_law_forward", "_law_backward", "_law_thin", "_law_s", "_law_told", "_law_t", "_law_due", "_law_road_here"] (defScope s_law_answers) _ _ = true; decide +kernel) (fun t ht s0 H0 C cl fp0 => tg_name 10 S.nd) (fun t ht s0 H0 C cl fp0 => ev_pub 10)))) (List.map_id' _)))))) ⟨(show order.length ≤ 1000 by omega), olt, RL, (show s < order.length by omega), fun p m => (show p < order.length by have := List.mem_range.mp m; omega), (show (List.range n).length ≤ 1000 by rw [List.length_range]; omega)⟩ A2) (ev_pub 9)) (by rw [decT rfl]; rfl) ?_
    refine run_forR rfl T.b_range (ev_ixT (ev_pub 0) (ev_nat (i := 0)) .hd) (by omega) (fun _ => [.pub rNet (n, ls), .pub (rLst rNat) order, .pub (rLst rRow) rows, .pub (rTab rInt) sums, .pub (rTab rInt) P, .pub (rLst (rLst (r2 rNat rInt))) FW, .pub (rLst (rLst (r2 rNat rInt))) BW, .pub (rLst rRow) th, .pub rNat s, .pub (rLst rOpt) told, .un, .un, .un]) (Le.refl _) (fun b2 hb2 t ht => ?_) ?_
    · have A3 := A3 s t hs ht
      have A4 := A4 s t hs ht
      have A5 := A5 s t hs ht
      have A6 := A6 s t hs ht
      have A7 := A7 s t hs ht
      have P4 := P4 t ht
      refine ⟨_, _, tg_name 10 S.nd, ?_⟩
      refine run_asg 11 S.nd (ev_getT (s := rOpt) (y := tget sums (s, t)) (hu_of hr) (ev_pub 3) (ev_tup (ef_cons (ev_pub 8) (ef_one (ev_pub 10)))) get_none get_some) ?_
      refine run_asg 12 S.nd (ev_callZ (x := (order, rows, s, t)) (z := answerRoad order rows s t) h_answer_road (hr.mono (by decide)) (ef_cons (ev_pub 1) (ef_cons (ev_pub 2) (ef_cons (ev_pub 8) (ef_one (ev_pub 10))))) A5 rfl) ?_
      generalize tget sums (s, t) = due at A3 A4 A6 A7 P4
      generalize answerRoad order rows s t = road at A6
      generalize hA : answerL order rows s t = an at A3
      obtain ⟨an1, an2⟩ := an
      obtain rfl : an1 = due := A3
      generalize hB : answerL order th s t = am at A7
      obtain ⟨am1, am2⟩ := am
      obtain rfl : am1 = an1 := A7
      refine run_no (EvW.t (ew_or (et_ne sc_opt (ev_ixT (ev_callZ (x := (order, rows, s, t)) (z := (am1, an2)) h_answer (hr.mono (by decide)) (ef_cons (ev_pub 1) (ef_cons (ev_pub 2) (ef_cons (ev_pub 8) (ef_one (ev_pub 10))))) ⟨(show order.length ≤ 1000 by omega), olt, RL, (show s < order.length by omega), (show t < order.length by omega)⟩ hA) (ev_nat (i := 0)) .hd) (ev_pub 11)) fun _ => ew_or1 (et_ne sc_opt (ev_callZ (z := am1) h_label_answer (hr.mono (by decide)) (ef_cons (ev_ix (ev_pub 5) (ev_pub 8) (gF s hs)) (ef_one (ev_ix (ev_pub 6) (ev_pub 10) (gB t ht)))) (hent s) A4) (ev_pub 11)))) (by simp) ?_
      have ask : AskOk (n, ls) s t am1 road told := by
        refine ⟨(show ls.length ≤ 1000 by omega), nlt, hs, ht, P1, P2, P3, P4, fun e => ?_, fun c e => ?_⟩
        · rcases A6 with ⟨_, q⟩ | ⟨d, ro, q, _⟩
          · exact q
          · rw [e] at q; cases q
        · rcases A6 with ⟨q, _⟩ | ⟨d, ro, q1, q2, q3, q4, q5⟩
          · rw [e] at q; cases q
          · rw [e] at q1
            cases q1
            exact ⟨ro, q2, q3.len, q3.hd, q3.ls, q4, q5⟩
      have fin : ∀ {u : Bool}, u = false → True := fun _ => trivial
      rcases A6 with ⟨rfl, rfl⟩ | ⟨d, ro, rfl, rfl, q3, q4, q5⟩
      · refine run_no (EvW.t (ew_or (EvW.t (ew_and (et_isN vn_opt (ev_pub 11)) fun _ => ew_and1 (et_notN vn_may (ev_pub 12)))) fun _ => ew_or1 (EvW.t (ew_and (u := true) (et_notN vn_opt (ev_pub 11)) (by intro h; cases h))))) rfl ?_
        refine run_no (EvW.t (ew_or (et_notTrue (ev_callZ (z := true) h_check_answer (hr.mono (by decide)) (ef_cons (ev_pub 0) (ef_cons (ev_pub 8) (ef_cons (ev_pub 10) (ef_cons (ev_pub 11) (ef_cons (ev_pub 12) (ef_one (ev_pub 9))))))) ask rfl)) fun _ => ew_or1 (et_ne sc_opt (ev_ixT (ev_callZ (x := (order, th, s, t)) (z := (_, am2)) h_answer (hr.mono (by decide)) (ef_cons (ev_pub 1) (ef_cons (ev_pub 7) (ef_cons (ev_pub 8) (ef_one (ev_pub 10))))) ⟨(show order.length ≤ 1000 by omega), olt, TL, (show s < order.length by omega), (show t < order.length by omega)⟩ hB) (ev_nat (i := 0)) .hd) (ev_pub 11)))) (by simp) ?_
        exact run_last (To.le (.cons .same (.cons .same (.cons .same (.cons .same (.cons .same (.cons .same (.cons .same (.cons .same (.cons .same (.cons .same (.cons .un (.cons .un (.cons .un .nil))))))))))))) fun _ _ g => g)
      · refine run_no (EvW.t (ew_or (EvW.t (ew_and (u := true) (et_isN vn_opt (ev_pub 11)) (by intro h; cases h))) fun _ => ew_or1 (EvW.t (ew_and (et_notN vn_opt (ev_pub 11)) fun _ => ew_and1 (et_not (et_val (ev_callZ (x := (P, ro, s, t, d)) (z := true) h_law_road (hr.mono (by decide)) (ef_cons (ev_pub 4) (ef_cons (Ev.unmay (ev_pub 12)) (ef_cons (ev_pub 8) (ef_cons (ev_pub 10) (ef_one (Ev.unopt (ev_pub 11))))))) q3 rfl))))))) rfl ?_
        refine run_no (EvW.t (ew_or (et_notTrue (ev_callZ (z := true) h_check_answer (hr.mono (by decide)) (ef_cons (ev_pub 0) (ef_cons (ev_pub 8) (ef_cons (ev_pub 10) (ef_cons (ev_pub 11) (ef_cons (ev_pub 12) (ef_one (ev_pub 9))))))) ask rfl)) fun _ => ew_or1 (et_ne sc_opt (ev_ixT (ev_callZ (x := (order, th, s, t)) (z := (_, am2)) h_answer (hr.mono (by decide)) (ef_cons (ev_pub 1) (ef_cons (ev_pub 7) (ef_cons (ev_pub 8) (ef_one (ev_pub 10))))) ⟨(show order.length ≤ 1000 by omega), olt, TL, (show s < order.length by omega), (show t < order.length by omega)⟩ hB) (ev_nat (i := 0)) .hd) (ev_pub 11)))) (by simp) ?_
        exact run_last (To.le (.cons .same (.cons .same (.cons .same (.cons .same (.cons .same (.cons .same (.cons .same (.cons .same (.cons .same (.cons .same (.cons .un (.cons .un (.cons .un .nil))))))))))))) fun _ _ g => g)
    · exact run_last (To.le (.cons .same (.cons .same (.cons .same (.cons .same (.cons .same (.cons .same (.cons .same (.cons .same (.cons .un (.cons .un (.cons .un (.cons .un (.cons .un .nil))))))))))))) fun _ _ g => g)
  · exact run_ret ev_bl (hret _ _ rfl)
end Ov

/-! ## F19 -/
namespace Ov
open PySem PySem.Spec PyProof.Rows L2 T

abbrev rTurn : Rep (List Change × Net × List Net) := rTup (fCons (rLst rChange) (fCons rNet (fOne (rLst rNet))))
structure TurnOk (S : Ses) (net : Net) (past : List Net) (ns : List Nat) (at_ : Nat) : Prop where
  ok : ∃ order i, LOk order ⟨net, past, S⟩ i ∧ i ≤ 100
  l : at_ + 7 < ns.length
theorem take_lawEdits {N : Net} {es : List Edit} {i : Nat} {e : Edit} (h : es[i]? = some e) : lawEdits N (es.take (i + 1)) = lawSet (lawEdits N (es.take i)) e.1 e.2.1 e.2.2 := by
  unfold lawEdits; rw [take_foldl h]
theorem lawEdits_len (N : Net) (es : List Edit) : (lawEdits N es).2.length = N.2.length := by
  unfold lawEdits
  induction es generalizing N with
  | nil => rfl
  | cons e es ih => rw [List.foldl_cons, ih]; unfold lawSet; simp
abbrev C_law_turn (Pg : Program) (Wd : World) (K : PySem.W.Frag) (mg : Str → Option Value) (Bh : Heap) : Prop := Cal Pg Wd K mg Bh "_law_turn" 6 ["_law_session", "_law_net_here", "_law_past", "_law_numbers_here", "_law_at"] (spM (oSes (CS K)) (fCons rNet (fCons (rLst rNet) (fCons (rLst rNat) (fOne rNat)))) rTurn (fun S x => TurnOk S x.1 x.2.1 x.2.2.1 x.2.2.2) (fun S x z S' => z = (toldL ⟨x.1, x.2.1, S⟩ x.2.2.1 x.2.2.2, (turnL ⟨x.1, x.2.1, S⟩ x.2.2.1 x.2.2.2).net, (turnL ⟨x.1, x.2.1, S⟩ x.2.2.1 x.2.2.2).past) ∧ S' = (turnL ⟨x.1, x.2.1, S⟩ x.2.2.1 x.2.2.2).ses))
set_option maxHeartbeats 2000000 in
theorem c_law_turn {Pg : Program} {Wd : World} {K : PySem.W.Frag} {mg : Str → Option Value} {Bh : Heap} (T : Hd K mg) (h_law_edit : C_law_edit Pg Wd K mg Bh) (h_law_set : C_law_set Pg Wd K mg Bh) (h_S_edit : C_S_edit Pg Wd K mg Bh) (h_S_edit_all : C_S_edit_all Pg Wd K mg Bh) (h_S_undo : C_S_undo Pg Wd K mg Bh) : C_law_turn Pg Wd K mg Bh := by
  obtain ⟨fd, F⟩ := T.f_law_turn
  have S : FnScope ["_law_session", "_law_net_here", "_law_past", "_law_numbers_here", "_law_at", "_law_kind", "_law_first", "_law_after", "_law_edits", "_law_one"] ["_law_session", "_law_net_here", "_law_past", "_law_numbers_here", "_law_at"] (defScope s_law_turn) := ⟨rfl, rfl, rfl, by decide +kernel, rfl, by decide +kernel, by decide +kernel⟩
  refine (fnM_ok F S (F.bindsN fun _ _ _ _ _ _ us hl => match us, hl with | [_, _, _, _, _], _ => rfl) rfl (fun cdv Ar ou st0 Hh Ee hr bb De v0 S0 xx hpre hret hnon => ?_)).cal T.g_law_turn
  obtain ⟨⟨n, ls⟩, past, ns, at_⟩ := xx
  refine ⟨_, (.cons (.cons (.cons .one))), ?_⟩
  obtain ⟨⟨order, ii, hO, hi⟩, hl⟩ := hpre
  have hO : LOk order ⟨(n, ls), past, S0⟩ ii := hO
  have hl : at_ + 7 < ns.length := hl
  have hpl : past.length ≤ ii := hO.n
  have KK := hO.k
  have LN : LawNet (n, ls) := KK.net
  have hll : ls.length ≤ 196 := LN.len
  have hpos : 0 < ls.length := hO.e
  have g0 : ns[at_]? = some (ns.getD at_ 0) := getD_get (by omega)
  have g7 : ns[at_ + 7]? = some (ns.getD (at_ + 7) 0) := getD_get (by omega)
  have hret : ∀ Γ z S', Γ[0]? = some (.slf v0 (oSes (CS K)) S') → (z = (toldL ⟨(n, ls), past, S0⟩ ns at_, (turnL ⟨(n, ls), past, S0⟩ ns at_).net, (turnL ⟨(n, ls), past, S0⟩ ns at_).past) ∧ S' = (turnL ⟨(n, ls), past, S0⟩ ns at_).ses) → Rt bb De Γ rTurn z := hret
  refine run_asg 5 S.nd (Ev.nat (n := ns.getD at_ 0 % 4) (Ev.is (ev_mod (ev_toint T.b_int (Ev.int (ev_ix (ev_pub 3) (ev_pub 4) g0))) (ev_int (i := 4)) (by decide)) (by omega))) ?_
  by_cases hu : isUndo ⟨(n, ls), past, S0⟩ ns at_ = true
  · have hu2 := hu
    unfold isUndo at hu2
    rw [Bool.and_eq_true] at hu2
    have u1 : ns.getD at_ 0 % 4 = 3 := of_decide_eq_true hu2.1
    have u2 : 0 < past.length := of_decide_eq_true hu2.2
    have up : past = past.dropLast ++ [lastNet ⟨(n, ls), past, S0⟩] := undo_past hu
    have et : turnL ⟨(n, ls), past, S0⟩ ns at_ = ⟨lastNet ⟨(n, ls), past, S0⟩, past.dropLast, S0.undone⟩ := by unfold turnL; rw [if_pos hu]
    have eo : toldL ⟨(n, ls), past, S0⟩ ns at_ = S0.undoTold := by unfold toldL; rw [if_pos hu]
    have KU : Keeps (n, ls) (past.dropLast ++ [lastNet ⟨(n, ls), past, S0⟩]) order S0 := by rw [← up]; exact KK
    obtain ⟨_, _, k3, k4, k5⟩ := KU.undo
    have hlast : past.getLast? = some (lastNet ⟨(n, ls), past, S0⟩) := (congrArg List.getLast? up).trans List.getLast?_concat
    refine run_yes (EvW.t (ew_and (et_eq sc_nat (ev_pub 5) (ev_nat (i := 3))) fun _ => ew_and1 (et_gt (Ev.int (ev_len T.b_len (ev_pub 2))) (ev_int (i := 0))))) (by rw [decide_eq_true u1]; simp; omega) ?_
    refine run_retM (em_tup (f := fCons rNet (fOne (rLst rNet))) (y := (lastNet ⟨(n, ls), past, S0⟩, past.dropLast)) (em_meth0 0 (sesO _) h_S_undo (hr.mono (by decide)) rfl hold_slf ⟨k3, KK.edok (show past.length ≤ 1000 by omega) k5 k4⟩) (fun z Γ' h => ?_)) (fun z Γ' h => ?_)
    · obtain ⟨S1, ⟨rfl, rfl⟩, rfl⟩ := h
      exact ef_cons (ev_ixI (ev_pub 2) ev_minus (atI_last' hlast)) (ef_one (EvN.pub (ev_init (ev_pub 2))))
    · obtain ⟨⟨S1, ⟨h1, h2⟩, rfl⟩, h3⟩ := h
      obtain ⟨z1, z2⟩ := z
      have h1 : z1 = S0.undoTold := h1
      have h3 : z2 = (lastNet ⟨(n, ls), past, S0⟩, past.dropLast) := h3
      subst h1 h2 h3
      exact hret _ _ _ rfl ⟨by rw [et, eo], by rw [et]⟩
  · have hu' : isUndo ⟨(n, ls), past, S0⟩ ns at_ = false := by simpa using hu
    have et : turnL ⟨(n, ls), past, S0⟩ ns at_ = ⟨lawEdits (n, ls) (turnEs ⟨(n, ls), past, S0⟩ ns at_), past ++ [(n, ls)], S0.editAll (turnEs ⟨(n, ls), past, S0⟩ ns at_)⟩ := by unfold turnL; rw [if_neg hu]
    have eo : toldL ⟨(n, ls), past, S0⟩ ns at_ = S0.editTold (turnEs ⟨(n, ls), past, S0⟩ ns at_) := by unfold toldL; rw [if_neg hu]
    obtain ⟨es1, es2⟩ := turn_es (L := ⟨(n, ls), past, S0⟩) LN hpos ns at_
    have ees : turnEs ⟨(n, ls), past, S0⟩ ns at_ = if ns.getD at_ 0 % 4 = 2 then threeL (n, ls) ns at_ else [editL (n, ls) ns (at_ + 1)] := rfl
    rw [et, eo] at hret
    refine run_no (EvW.t (ew_and (et_eq sc_nat (ev_pub 5) (ev_nat (i := 3))) fun _ => ew_and1 (et_gt (Ev.int (ev_len T.b_len (ev_pub 2))) (ev_int (i := 0))))) ?_ ?_
    · unfold isUndo at hu'
      rw [← hu']
      show (decide (ns.getD at_ 0 % 4 = 3) && decide ((0 : Int) < (past.length : Int))) = (decide (ns.getD at_ 0 % 4 = 3) && decide (0 < past.length))
      congr 1
      simp
    refine run_asg 6 S.nd (ev_callZ (x := ((n, ls), ns, at_ + 1)) (z := editL (n, ls) ns (at_ + 1)) h_law_edit (hr.mono (by decide)) (ef_cons (ev_pub 1) (ef_cons (ev_pub 3) (ef_one (ev_addN (ev_pub 4) (ev_nat (i := 1)))))) ⟨hpos, (show at_ + 1 + 2 < ns.length by omega)⟩ rfl) ?_
    generalize hE1 : editL (n, ls) ns (at_ + 1) = e1 at ees
    obtain ⟨a1, b1, p1⟩ := e1
    refine run_asg 7 S.nd (ev_callZ (x := ((n, ls), a1, b1, p1)) (z := lawSet (n, ls) a1 b1 p1) h_law_set (hr.mono (by decide)) (ef_cons (ev_pub 1) (ef_cons (ev_ixT (ev_pub 6) (ev_nat (i := 0)) .hd) (ef_cons (ev_ixT (ev_pub 6) (ev_nat (i := 1)) (.tl .hd)) (ef_one (ev_ixT (ev_pub 6) (ev_nat (i := 2)) (.tl (.tl .one))))))) (show ls.length ≤ 1000 by omega) rfl) ?_
    by_cases h2 : ns.getD at_ 0 % 4 = 2
    · rw [if_pos h2] at ees
      refine run_yes (et_eq sc_nat (ev_pub 5) (ev_nat (i := 2))) (decide_eq_true h2) ?_
      have eth : threeL (n, ls) ns at_ = [(a1, b1, p1), editL (n, ls) ns (at_ + 4), editL (n, ls) ns (at_ + 2)].take (ns.getD (at_ + 7) 0 % 4) := by unfold threeL; rw [hE1]
      refine run_asgN 8 S.nd (ev_take (r := rEdit) (n := ns.getD (at_ + 7) 0 % 4) (EvN.pub (ev_lst (ei_cons (ev_pub 6) (ei_cons (ev_callZ (x := ((n, ls), ns, at_ + 4)) (z := editL (n, ls) ns (at_ + 4)) h_law_edit (hr.mono (by decide)) (ef_cons (ev_pub 1) (ef_cons (ev_pub 3) (ef_one (ev_addN (ev_pub 4) (ev_nat (i := 4)))))) ⟨hpos, (show at_ + 4 + 2 < ns.length by omega)⟩ rfl) (ei_cons (ev_callZ (x := ((n, ls), ns, at_ + 2)) (z := editL (n, ls) ns (at_ + 2)) h_law_edit (hr.mono (by decide)) (ef_cons (ev_pub 1) (ef_cons (ev_pub 3) (ef_one (ev_addN (ev_pub 4) (ev_nat (i := 2)))))) ⟨hpos, (show at_ + 2 + 2 < ns.length by omega)⟩ rfl) ef_nil1))) (by simp; exact sz_le' (by decide)))) (Ev.nat (Ev.is (ev_mod (ev_toint T.b_int (Ev.int (ev_ix (ev_pub 3) (ev_addN (ev_pub 4) (ev_nat (i := 7))) g7))) (ev_int (i := 4)) (by decide)) (by omega)))) ?_
      rw [← eth, ← ees]
      generalize turnEs ⟨(n, ls), past, S0⟩ ns at_ = es at es1 es2 hret
      refine run_pub 8 rfl ?_
      refine run_asg 7 S.nd (ev_pub 1) ?_
      refine run_for rfl (ev_pub 8) (fun i => [.slf v0 (oSes (CS K)) S0, .pub rNet (n, ls), .pub (rLst rNet) past, .pub (rLst rNat) ns, .pub rNat at_, .pub rNat (ns.getD at_ 0 % 4), .pub rEdit (a1, b1, p1), .pub rNet (lawEdits (n, ls) (es.take i)), .pub (rLst rEdit) es, .un]) (Le.refl _) (fun b2 hb2 i e hi => ?_) ?_
      · have hlen := lawEdits_len (n, ls) (es.take i)
        rw [take_lawEdits hi]
        generalize lawEdits (n, ls) (es.take i) = M at hlen
        have hlen : M.2.length = ls.length := hlen
        obtain ⟨a, b, p⟩ := e
        refine ⟨_, _, tg_name 9 S.nd, ?_⟩
        refine run_asg 7 S.nd (ev_callZ (x := (M, a, b, p)) (z := lawSet M a b p) h_law_set (hr.mono (by decide)) (ef_cons (ev_pub 7) (ef_cons (ev_ixT (ev_pub 9) (ev_nat (i := 0)) .hd) (ef_cons (ev_ixT (ev_pub 9) (ev_nat (i := 1)) (.tl .hd)) (ef_one (ev_ixT (ev_pub 9) (ev_nat (i := 2)) (.tl (.tl .one))))))) (show M.2.length ≤ 1000 by omega) rfl) ?_
        exact run_last (To.le (.cons .same (.cons .same (.cons .same (.cons .same (.cons .same (.cons .same (.cons .same (.cons .same (.cons .same (.cons .un .nil)))))))))) fun _ _ g => g)
      · rw [List.take_length]
        refine run_retM (em_tup (f := fCons rNet (fOne (rLst rNet))) (y := (lawEdits (n, ls) es, past ++ [(n, ls)])) (em_meth 0 (sesO _) h_S_edit_all (hr.mono (by decide)) rfl hold_slf (ef_one (ev_pub 8)) ⟨KK.edok (show past.length ≤ 1000 by omega) es1 (fun e m => (es2 e m).2), fun e m => (es2 e m).1⟩) (fun z Γ' h => ?_)) (fun z Γ' h => ?_)
        · obtain ⟨S1, ⟨rfl, rfl⟩, rfl⟩ := h
          exact ef_cons (ev_pub 7) (ef_one (EvN.pub (ev_cat (ev_pub 2) (EvN.pub (ev_lst (ei_cons (ev_pub 1) ef_nil1) (by simp; exact sz_le' (by decide)))) (sz_le' (by simp; omega)))))
        · obtain ⟨⟨S1, ⟨h1, h2⟩, rfl⟩, h3⟩ := h
          obtain ⟨z1, z2⟩ := z
          have h1 : z1 = S0.editTold es := h1
          have h3 : z2 = (lawEdits (n, ls) es, past ++ [(n, ls)]) := h3
          subst h1 h2 h3
          exact hret _ _ _ rfl ⟨rfl, rfl⟩
    · rw [if_neg h2] at ees
      refine run_no (et_eq sc_nat (ev_pub 5) (ev_nat (i := 2))) (decide_eq_false h2) ?_
      rw [ees] at es1 es2 hret
      have eL : lawEdits (n, ls) [(a1, b1, p1)] = lawSet (n, ls) a1 b1 p1 := rfl
      rw [eL] at hret
      refine run_retM (em_tup (f := fCons rNet (fOne (rLst rNet))) (y := (lawSet (n, ls) a1 b1 p1, past ++ [(n, ls)])) (em_meth 0 (sesO _) h_S_edit (hr.mono (by decide)) rfl hold_slf (y := (a1, b1, p1)) (ef_cons (ev_ixT (ev_pub 6) (ev_nat (i := 0)) .hd) (ef_cons (ev_ixT (ev_pub 6) (ev_nat (i := 1)) (.tl .hd)) (ef_one (ev_ixT (ev_pub 6) (ev_nat (i := 2)) (.tl (.tl .one)))))) ⟨KK.edok (show past.length ≤ 1000 by omega) es1 (fun e m => (es2 e m).2), (es2 _ (by simp)).1⟩) (fun z Γ' h => ?_)) (fun z Γ' h => ?_)
      · obtain ⟨S1, ⟨rfl, rfl⟩, rfl⟩ := h
        exact ef_cons (ev_pub 7) (ef_one (EvN.pub (ev_cat (ev_pub 2) (EvN.pub (ev_lst (ei_cons (ev_pub 1) ef_nil1) (by simp; exact sz_le' (by decide)))) (sz_le' (by simp; omega)))))
      · obtain ⟨⟨S1, ⟨h1, h2⟩, rfl⟩, h3⟩ := h
        obtain ⟨z1, z2⟩ := z
        have h1 : z1 = S0.editTold [(a1, b1, p1)] := h1
        have h3 : z2 = (lawSet (n, ls) a1 b1 p1, past ++ [(n, ls)]) := h3
        subst h1 h2 h3
        exact hret _ _ _ rfl ⟨rfl, rfl⟩
end Ov

/-! ## F20 -/
namespace Ov
open PySem PySem.Spec PyProof.Rows L2 T

theorem fn_okF {α β : Type} {P : Program} {w : World} {K : PySem.W.Frag} {mg : Str → Option Value} {base : Heap} {xn qual : Str} {params : Arguments} {bd : List Stmt} {sc : Scope} {fa : Addr} {fd : FuncData} {N ps : List Str} {k : Nat} {f : Fld α} {s : Rep β} {pre : α → Prop} {post : α → β → Prop}
    (F : FunD K xn qual params bd sc [] [] fa fd) (S : FnScope N ps sc) (hb : Binds K fd ps []) (hn : f.n = ps.length)
    (body : ∀ (cdv : Value) (A : Around) (outer : List Env) (st : Shared) (H : Hp) (E : XK), Room k (A.deeper (envOfC qual sc st.heap.objs.size fa cdv)) → ∀ (b : Bs) (D : Ends) (x : α), pre x → (∀ Γ y, post x y → Rt b D Γ s y) → (∀ Γ y, post x y → (∀ I, s.is I .non y) → To D.nx b Γ) →
      ∃ bs, FB f x bs ∧ Run b (bodyX P w K mg base N qual sc fa cdv A outer st H E) bd D (bs ++ List.replicate (N.length - bs.length) .un)) (hl : ps.length ≤ N.length := by decide) : FnOk P w K mg base CX0 (k + 1) fa fd ps (spF f s pre post) := by
  refine F.ok S (fun vs H Q E h => ?_) (fun cdv A outer st H vs Q E hr h => ?_)
  · obtain ⟨x, I, _, z, _⟩ := h
    rw [f.len z, hn]
  · obtain ⟨x, I, s1, z, hp, q⟩ := h
    have go : ∀ {J G : Hp}, Ok ⟨I, H, []⟩ J G → Ext I H J G := fun o => ⟨o.i0, fun a u e => o.h0 a u e (by simp), o.ih, fun a ha n => o.pr a ha n⟩
    obtain ⟨bs, fb, run⟩ := body cdv A outer st H E hr ⟨I, H, []⟩ { nx := fun _ H' => Q .non H', rt := Q } x hp (fun Γ y hy σ J G fp v o c zz => q v J G y (go o) zz hy) (fun Γ y hy hnn σ G ⟨J, fp, o, c⟩ => q .non J G y (go o) (hnn J) hy)
    refine ⟨wSs (bodyX P w K mg base N qual sc fa cdv A outer st H E) bd, PSs.nox pss_w, ?_⟩
    have l := (fb.at_ z).1
    exact run _ _ ⟨I, _, ⟨Same.refl _, fun a u e _ => e, s1, fun a z n => n, fun a z => z⟩, start_cn fb z (by rw [← l, f.len z, hn]; exact hl)⟩
instance iOI : DecidableEq (Option Int) := inferInstance
instance iON : DecidableEq (Option Nat) := inferInstance
instance iRow2 : DecidableEq (Option Nat × Option Nat) := inferInstance
instance iRow4 : DecidableEq (Option Int × Option Int × Option Nat × Option Nat) := inferInstance
instance iRow : DecidableEq Row := inferInstance
instance iNet : DecidableEq Net := inferInstance
def _root_.T.Dq.up {α : Type} {r : Rep α} {d e : Nat} (q : Dq r d) (h : d ≤ e) : Dq r e := ⟨q.dat, q.ok, q.lay, fun x => Nat.le_trans (q.dep x) h, q.inj⟩
def dLink : Dq rLink 1 := dTup (dCons dNat (dCons dNat (dCons dOpt (dOne dOpt))))
def dNet : Dq rNet 3 := dTup (dCons (Dq.up dNat (by decide)) (dOne (dLst dLink)))
def dRow : Dq rRow 1 := dTup (dCons dNat (dCons dNat (dCons dOpt (dCons dOpt (dCons dOpN (dOne dOpN))))))
def dChange : Dq rChange 1 := dTup (dCons dNat (dCons dNat (dCons dOpt (dOne dOpt))))
theorem turn_pairs (L : LS) (ns : List Nat) (at_ : Nat) : (turnL L ns at_).ses.pairs = L.ses.pairs := by
  unfold turnL
  split <;> rfl
theorem fill_len (N : Net) (order : List Nat) : (fillL N order).length = (pairsL N order).length := by unfold fillL; rw [List.length_map]
theorem keeps_fillok {N : Net} {order : List Nat} (h : LawNet N) (ho : IsOrder N.1 order) : FillOk N order := ⟨h.small, h.ok, ho⟩
theorem keeps_copyok {N : Net} {past : List Net} {order : List Nat} {S : Ses} (k : Keeps N past order S) (hp : past.length ≤ 1000) : CopyOk S where
  net := k.inv.netS k.net k.ord
  ok := by rw [k.inv.net k.net k.ord, k.inv.ord]; exact keeps_fillok k.net k.ord
  h := by have := k.his.len; rw [List.length_reverse, List.length_reverse] at this; omega
  l := by have := k.lk; omega
abbrev C_law (Pg : Program) (Wd : World) (K : PySem.W.Frag) (mg : Str → Option Value) (Bh : Heap) : Prop := Cal Pg Wd K mg Bh "law" 21 ["_law_script"] (spF (fOne (rScr K)) rBl (fun x => True) (fun x y => y = true))
set_option maxHeartbeats 2000000 in
theorem c_law {Pg : Program} {Wd : World} {K : PySem.W.Frag} {mg : Str → Option Value} {Bh : Heap} (T : Hd K mg) {fd : FuncData} (F : FunD K d_law.name d_law.qual (defArgs s_law) (defBody s_law) (defScope s_law) [] [] (He.fAd K d_law.at_) fd) (h_law_numbers : C_law_numbers Pg Wd K mg Bh) (h_law_net : C_law_net Pg Wd K mg Bh) (h_law_order : C_law_order Pg Wd K mg Bh) (h_fill : C_fill Pg Wd K mg Bh) (h_law_answers : C_law_answers Pg Wd K mg Bh) (h_law_sums : C_law_sums Pg Wd K mg Bh) (h_S_init : C_S_init Pg Wd K mg Bh) (h_S_filling : C_S_filling Pg Wd K mg Bh) (h_S_net : C_S_net Pg Wd K mg Bh) (h_law_turn : C_law_turn Pg Wd K mg Bh) (h_law_changes : C_law_changes Pg Wd K mg Bh) (h_S_copy : C_S_copy Pg Wd K mg Bh) (h_S_edit : C_S_edit Pg Wd K mg Bh) (h_law_edit : C_law_edit Pg Wd K mg Bh) : FnOk Pg Wd K mg Bh CX0 21 (He.fAd K d_law.at_) fd ["_law_script"] (spF (fOne (rScr K)) rBl (fun x => True) (fun x y => y = true)) := by
  have S : FnScope ["_law_script", "_law_numbers_here", "_law_count", "_law_net_here", "_law_order_here", "_law_rows", "_law_session", "_law_past", "_law_turn_here", "_law_told", "_law_after", "_law_fresh", "_law_elder", "_law_edit_here"] ["_law_script"] (defScope s_law) := ⟨rfl, rfl, rfl, by decide +kernel, rfl, by decide +kernel, by decide +kernel⟩
  refine fn_okF F S (F.bindsN fun _ _ _ _ _ _ us hl => match us, hl with | [_], _ => rfl) rfl (fun cdv Ar ou st0 Hh Ee hr bb De xx hpre hret hnon => ?_)
  obtain ⟨_law_script, rfl⟩ : ∃ y, y = xx := ⟨xx, rfl⟩
  refine ⟨_, .one, ?_⟩
  obtain ⟨fdi, Fi, kpi, bi⟩ := h_S_init.ex
  refine run_asg 1 S.nd (ev_callZ (x := (_law_script, 200)) (z := numbersL _law_script 200) h_law_numbers (hr.mono (by decide)) (ef_cons (ev_pub (r := rScr K) 0) (ef_one (ev_nat (i := 200)))) (show (200 : Nat) ≤ 100000 by decide) rfl) ?_
  have hnl : (numbersL _law_script 200).length = 200 := numbers_len _ _
  generalize numbersL _law_script 200 = ns at hnl
  have main : ∀ n, n ≤ 14 → Run bb (bodyX Pg Wd K mg Bh ["_law_script", "_law_numbers_here", "_law_count", "_law_net_here", "_law_order_here", "_law_rows", "_law_session", "_law_past", "_law_turn_here", "_law_told", "_law_after", "_law_fresh", "_law_elder", "_law_edit_here"] d_law.qual (defScope s_law) (He.fAd K d_law.at_) cdv Ar ou st0 Hh Ee) ((defBody s_law).drop 3) De [.pub (rScr K) _law_script, .pub (rLst rNat) ns, .pub rNat n, .un, .un, .un, .un, .un, .un, .un, .un, .un, .un, .un] := by
    intro n hn
    refine run_asg 3 S.nd (ev_callZ (x := (ns, 10, n)) (z := lawNetL ns 10 n) h_law_net (hr.mono (by decide)) (ef_cons (ev_pub 1) (ef_cons (ev_nat (i := 10)) (ef_one (ev_pub 2)))) ⟨hn, (show 10 + 9 * n ≤ ns.length by omega)⟩ rfl) ?_
    refine run_asg 4 S.nd (ev_callZ (x := (ns, 80, n)) (z := orderL ns 80 n) h_law_order (hr.mono (by decide)) (ef_cons (ev_pub 1) (ef_cons (ev_nat (i := 80)) (ef_one (ev_pub 2)))) ⟨(show n ≤ 1000 by omega), (show 80 + n ≤ ns.length by omega)⟩ rfl) ?_
    have LN0 := law_net ns 10 n hn
    have hO0 : IsOrder (lawNetL ns 10 n).1 (orderL ns 80 n) := law_order ns 80 n
    generalize lawNetL ns 10 n = N0 at LN0 hO0
    generalize orderL ns 80 n = order at hO0
    obtain ⟨m0, ls0⟩ := N0
    have K0 : Keeps (m0, ls0) [] order (sesNew (m0, ls0) order) := Keeps.new LN0 hO0
    refine run_asg 5 S.nd (ev_callZ (x := ((m0, ls0), order)) (z := fillL (m0, ls0) order) h_fill (hr.mono (by decide)) (ef_cons (ev_pub 3) (ef_one (ev_pub 4))) (keeps_fillok LN0 hO0) rfl) ?_
    have hl0 : ls0.length ≤ 196 := LN0.len
    refine run_no (EvW.t (ew_or (et_not (et_val (ev_isList T.b_isinstance T.b_list (ev_pub 5)))) fun _ => ew_or1 (et_not (et_val (ev_callZ (x := ((m0, ls0), order, fillL (m0, ls0) order, lawSums (m0, ls0))) (z := true) h_law_answers (hr.mono (by decide)) (ef_cons (ev_pub 3) (ef_cons (ev_pub 4) (ef_cons (ev_pub 5) (ef_one (ev_callZ (x := (m0, ls0)) (z := lawSums (m0, ls0)) h_law_sums (hr.mono (by decide)) (ef_one (ev_pub 3)) ⟨(show ls0.length ≤ 1000 by omega), LN0.small⟩ rfl))))) ⟨LN0, hO0, rfl, rfl⟩ rfl))))) rfl ?_
    refine run_asgN 6 S.nd (ev_make (y := ((m0, ls0), order)) Fi bi T.mkr (hr.mono (by decide)) T.g_Session (ef_cons (ev_pub 3) (ef_one (ev_pub 4))) (keeps_fillok LN0 hO0)) ?_
    refine run_asgN 7 S.nd (ev_nilL (r := rNet)) ?_
    refine run_pub 7 rfl ?_
    by_cases h0 : ls0.length = 0
    · refine run_yes (et_eq sc_nat (ev_len T.b_len (ev_ixT (ev_pub 3) (ev_nat (i := 1)) (.tl .one))) (ev_nat (i := 0))) (decide_eq_true h0) ?_
      refine run_ret (x := true) (ev_and (ev_eqD (dLst dRow) hr.units (ev_methR0E (zz := fillL (m0, ls0) order) 6 (sesNew (m0, ls0) order) (sesO _) h_S_filling (hr.mono (by decide)) rfl peek_own (K0.inv.ok LN0 hO0) (K0.inv.fill LN0 hO0)) (ev_pub 5)) (fun _ => ev_one (ev_eqD dNet hr.units (ev_methR0E (zz := (m0, ls0)) 6 (sesNew (m0, ls0) order) (sesO _) h_S_net (hr.mono (by decide)) rfl peek_own (K0.inv.netS LN0 hO0) (K0.inv.net LN0 hO0)) (ev_pub 3))) ?_) (hret _ _ rfl)
      rw [decT rfl, decT rfl]; rfl
    · refine run_no (et_eq sc_nat (ev_len T.b_len (ev_ixT (ev_pub 3) (ev_nat (i := 1)) (.tl .one))) (ev_nat (i := 0))) (decide_eq_false h0) ?_
      have L0 : LOk order ⟨(m0, ls0), [], sesNew (m0, ls0) order⟩ 0 := ⟨K0, Nat.le_refl _, (show 0 < ls0.length by omega)⟩
      have LL := loop_ok L0 ns
      have g1 : ns[1]? = some (ns.getD 1 0) := getD_get (by omega)
      refine run_forR rfl T.b_range (n := ns.getD 1 0 % 8) (Ev.nat (Ev.is (ev_mod (ev_toint T.b_int (Ev.int (ev_ix (ev_pub 1) (ev_nat (i := 1)) g1))) (ev_int (i := 8)) (by decide)) (by omega))) (by omega) (fun t => [.pub (rScr K) _law_script, .pub (rLst rNat) ns, .pub rNat n, .pub rNet (loopAt ns ⟨(m0, ls0), [], sesNew (m0, ls0) order⟩ t).net, .pub (rLst rNat) order, .pub (rLst rRow) (fillL (loopAt ns ⟨(m0, ls0), [], sesNew (m0, ls0) order⟩ t).net order), .own (oSes (CS K)) (loopAt ns ⟨(m0, ls0), [], sesNew (m0, ls0) order⟩ t).ses, .pub (rLst rNet) (loopAt ns ⟨(m0, ls0), [], sesNew (m0, ls0) order⟩ t).past, .un, .un, .un, .un, .un, .un]) (Le.refl _) (fun b1 hb1 t ht => ?_) ?_
      · have ht8 : t < 8 := by omega
        have hL := LL t
        rw [loop_succ]
        generalize loopAt ns ⟨(m0, ls0), [], sesNew (m0, ls0) order⟩ t = L at hL
        obtain ⟨TO, TT⟩ := turn_ok hL ns (100 + 8 * t)
        have TPR := turn_pairs L ns (100 + 8 * t)
        have est : loopStep ns L t = if t % 3 = 1 then { turnL L ns (100 + 8 * t) with ses := (turnL L ns (100 + 8 * t)).ses.copyL } else turnL L ns (100 + 8 * t) := rfl
        rw [est]
        obtain ⟨N, past, S0⟩ := L
        refine ⟨_, _, tg_name 8 S.nd, ?_⟩
        refine run_unpM (em_fun 6 h_law_turn (hr.mono (by decide)) rfl hold_own (y := (N, past, ns, 100 + 8 * t)) (ef_cons (ev_pub 3) (ef_cons (ev_pub 7) (ef_cons (ev_pub 1) (ef_one (Ev.nat (n := 100 + 8 * t) (Ev.is (ev_add (ev_int (i := 100)) (ev_mul (ev_int (i := 8)) (Ev.int (ev_pub 8)) (.inl ⟨by decide, by decide⟩))) (by omega))))))) ⟨⟨order, t, hL, by omega⟩, (show 100 + 8 * t + 7 < ns.length by omega)⟩) (fun z Γ' h => ?_)
        obtain ⟨S1, ⟨hz, hS1⟩, rfl⟩ := h
        obtain ⟨z1, z2, z3⟩ := z
        have hz : (z1, z2, z3) = (toldL ⟨N, past, S0⟩ ns (100 + 8 * t), (turnL ⟨N, past, S0⟩ ns (100 + 8 * t)).net, (turnL ⟨N, past, S0⟩ ns (100 + 8 * t)).past) := hz
        have hS1 : S1 = (turnL ⟨N, past, S0⟩ ns (100 + 8 * t)).ses := hS1
        injection hz with hz1 hz
        injection hz with hz2 hz3
        rw [TT] at hz1
        generalize turnL ⟨N, past, S0⟩ ns (100 + 8 * t) = L1 at TO TPR hz1 hz2 hz3 hS1
        obtain ⟨N1, past1, S1'⟩ := L1
        have hz2 := hz2.symm
        have hz3 := hz3.symm
        subst hz1
        dsimp only at hz2 hz3 hS1
        subst hz2
        subst hz3
        subst hS1
        have K1 : Keeps N1 past1 order S1 := TO.k
        have hp1 : past1.length ≤ t + 1 := TO.n
        have he1 : 0 < N1.2.length := TO.e
        have KL : Keeps N past order S0 := hL.k
        have hpr : pairsL N1 order = pairsL N order := by
          rw [← K1.inv.prs, ← KL.inv.prs]; exact TPR
        have hps := pairs_small KL.net KL.ord
        refine ⟨_, _, tg_tup rfl (tgs_cons (tg_name 9 S.nd) (tgs_cons (tg_name 10 S.nd) (tgs_one (tg_name 7 S.nd)))), ?_⟩
        refine run_asg 11 S.nd (ev_callZ (x := (N1, order)) (z := fillL N1 order) h_fill (hr.mono (by decide)) (ef_cons (ev_pub 10) (ef_one (ev_pub 4))) (keeps_fillok K1.net K1.ord) rfl) ?_
        refine run_no (EvW.t (ew_or (et_neD (dLst dChange) hr.units (ev_pub 9) (ev_callZ (x := (fillL N order, fillL N1 order)) (z := changesL (fillL N order) (fillL N1 order)) h_law_changes (hr.mono (by decide)) (ef_cons (ev_pub 5) (ef_one (ev_pub 11))) ⟨(show (fillL N order).length = (fillL N1 order).length by rw [fill_len, fill_len, hpr]), (show (fillL N1 order).length ≤ 100000 by rw [fill_len, hpr]; omega)⟩ rfl)) fun _ => ew_or (et_neD (dLst dRow) hr.units (ev_methR0E (zz := fillL N1 order) 6 S1 (sesO _) h_S_filling (hr.mono (by decide)) rfl peek_own (K1.inv.ok K1.net K1.ord) (K1.inv.fill K1.net K1.ord)) (ev_pub 11)) fun _ => ew_or1 (et_neD dNet hr.units (ev_methR0E (zz := N1) 6 S1 (sesO _) h_S_net (hr.mono (by decide)) rfl peek_own (K1.inv.netS K1.net K1.ord) (K1.inv.net K1.net K1.ord)) (ev_pub 10)))) (by rw [decT rfl, decT rfl, decT rfl]; rfl) ?_
        refine run_asg 3 S.nd (ev_pub 10) ?_
        refine run_asg 5 S.nd (ev_pub 11) ?_
        by_cases h3 : t % 3 = 1
        · rw [if_pos h3]
          refine run_yes (et_eq sc_int (ev_mod (ev_toint T.b_int (Ev.int (ev_pub 8))) (ev_int (i := 3)) (by decide)) (ev_int (i := 1))) (decide_eq_true (by omega)) ?_
          refine run_move 6 12 (by decide) S.nd rfl ?_
          refine run_asgN 6 S.nd (ev_methRN0 12 (sesO _) h_S_copy (hr.mono (by decide)) rfl peek_own (keeps_copyok K1 (by omega))) ?_
          have K2 := K1.copy
          obtain ⟨ed1, ed2⟩ := Ov.edit_ok K1.net he1 ns (108 + 8 * t)
          refine run_asg 13 S.nd (ev_callZ (x := (N1, ns, 108 + 8 * t)) (z := editL N1 ns (108 + 8 * t)) h_law_edit (hr.mono (by decide)) (ef_cons (ev_pub 3) (ef_cons (ev_pub 1) (ef_one (Ev.nat (n := 108 + 8 * t) (Ev.is (ev_add (ev_int (i := 108)) (ev_mul (ev_int (i := 8)) (Ev.int (ev_pub 8)) (.inl ⟨by decide, by decide⟩))) (by omega)))))) ⟨he1, (show 108 + 8 * t + 2 < ns.length by omega)⟩ rfl) ?_
          generalize editL N1 ns (108 + 8 * t) = ed at ed1 ed2
          obtain ⟨ea, eb, ep⟩ := ed
          refine run_dropM (em_meth 12 (sesO _) h_S_edit (hr.mono (by decide)) rfl hold_own (y := (ea, eb, ep)) (ef_cons (ev_ixT (ev_pub 13) (ev_nat (i := 0)) .hd) (ef_cons (ev_ixT (ev_pub 13) (ev_nat (i := 1)) (.tl .hd)) (ef_one (ev_ixT (ev_pub 13) (ev_nat (i := 2)) (.tl (.tl .one)))))) ⟨K1.edok (show past1.length ≤ 1000 by omega) (by simp) (fun e m => by have q : e = (ea, eb, ep) := (by simpa using m); rw [q]; exact ed2), ed1⟩) (fun z Γ' h => ?_)
          obtain ⟨S2, ⟨_, rfl⟩, rfl⟩ := h
          refine run_no (EvW.t (ew_or (et_neD (dLst dRow) hr.units (ev_methR0E (zz := fillL N1 order) 6 S1.copyL (sesO _) h_S_filling (hr.mono (by decide)) rfl peek_own (K2.inv.ok K2.net K2.ord) (K2.inv.fill K2.net K2.ord)) (ev_pub 5)) fun _ => ew_or1 (et_neD dNet hr.units (ev_methR0E (zz := N1) 6 S1.copyL (sesO _) h_S_net (hr.mono (by decide)) rfl peek_own (K2.inv.netS K2.net K2.ord) (K2.inv.net K2.net K2.ord)) (ev_pub 3)))) (by rw [decT rfl, decT rfl]; rfl) ?_
          exact run_end (run_last (To.le (.cons .same (.cons .same (.cons .same (.cons .same (.cons .same (.cons .same (.cons .same (.cons .same (.cons .un (.cons .un (.cons .un (.cons .un (.cons .un (.cons .un .nil)))))))))))))) fun _ _ g => g))
        · rw [if_neg h3]
          refine run_no (et_eq sc_int (ev_mod (ev_toint T.b_int (Ev.int (ev_pub 8))) (ev_int (i := 3)) (by decide)) (ev_int (i := 1))) (decide_eq_false (by omega)) ?_
          exact run_last (To.le (.cons .same (.cons .same (.cons .same (.cons .same (.cons .same (.cons .same (.cons .same (.cons .same (.cons .un (.cons .un (.cons .un (.cons .un (.cons .un (.cons .un .nil)))))))))))))) fun _ _ g => g)
      · have hL := LL (ns.getD 1 0 % 8)
        generalize loopAt ns ⟨(m0, ls0), [], sesNew (m0, ls0) order⟩ (ns.getD 1 0 % 8) = L at hL
        obtain ⟨N, past, S0⟩ := L
        have KL : Keeps N past order S0 := hL.k
        have hlN := KL.net.len
        exact run_ret (ev_callZ (x := (N, order, fillL N order, lawSums N)) (z := true) h_law_answers (hr.mono (by decide)) (ef_cons (ev_pub 3) (ef_cons (ev_pub 4) (ef_cons (ev_pub 5) (ef_one (ev_callZ (x := N) (z := lawSums N) h_law_sums (hr.mono (by decide)) (ef_one (ev_pub 3)) ⟨(show N.2.length ≤ 1000 by omega), KL.net.small⟩ rfl))))) ⟨KL.net, KL.ord, rfl, rfl⟩ rfl) (hret _ _ rfl)
  have g0 : ns[0]? = some (ns.getD 0 0) := getD_get (by omega)
  have g2 : ns[2]? = some (ns.getD 2 0) := getD_get (by omega)
  generalize ns.getD 0 0 = d0 at g0
  generalize ns.getD 2 0 = d2 at g2
  refine run_asg 2 S.nd (Ev.nat (n := 1 + d0 % 7) (Ev.is (ev_add (ev_int (i := 1)) (ev_mod (ev_toint T.b_int (Ev.int (ev_ix (ev_pub 1) (ev_nat (i := 0)) g0))) (ev_int (i := 7)) (by decide))) (by omega))) ?_
  refine run_if (et_eq sc_int (ev_mod (ev_toint T.b_int (Ev.int (ev_ix (ev_pub 1) (ev_nat (i := 2)) g2))) (ev_int (i := 16)) (by decide)) (ev_int (i := 3))) (fun h => ?_) (fun h => run_end ?_)
  · refine run_asg 2 S.nd (Ev.nat (n := 9 + d0 % 6) (Ev.is (ev_add (ev_int (i := 9)) (ev_mod (ev_toint T.b_int (Ev.int (ev_ix (ev_pub 1) (ev_nat (i := 0)) g0))) (ev_int (i := 6)) (by decide))) (by omega))) ?_
    exact run_end (main _ (by omega))
  · exact main _ (by omega)
end Ov

/-! ## H1 -/
set_option maxHeartbeats 0
namespace Ov
open PySem PySem.Spec PyProof.Rows L2 T
/-! The chain of the promises; the head. -/
theorem ok_law {Pg : Program} {Wd : World} {K : PySem.W.Frag} {mg : Str → Option Value} {Bh : Heap} (T : Hd K mg) {fd : FuncData} (F : FunD K d_law.name d_law.qual (defArgs s_law) (defBody s_law) (defScope s_law) [] [] (He.fAd K d_law.at_) fd) : FnOk Pg Wd K mg Bh CX0 21 (He.fAd K d_law.at_) fd ["_law_script"] (spF (fOne (rScr K)) rBl (fun x => True) (fun x y => y = true)) := by
  have h_first_fault : C_first_fault Pg Wd K mg Bh := c_first_fault T 
  have h_ranks : C_ranks Pg Wd K mg Bh := c_ranks T h_first_fault
  have h_link_prices : C_link_prices Pg Wd K mg Bh := c_link_prices T 
  have h_total_fill : C_total_fill Pg Wd K mg Bh := c_total_fill T 
  have h_best_way : C_best_way Pg Wd K mg Bh := c_best_way T h_total_fill
  have h_row_of : C_row_of Pg Wd K mg Bh := c_row_of T 
  have h_link_index : C_link_index Pg Wd K mg Bh := c_link_index T 
  have h_link_price : C_link_price Pg Wd K mg Bh := c_link_price T h_link_index
  have h_road_sum : C_road_sum Pg Wd K mg Bh := c_road_sum T h_link_price
  have h_open_ways : C_open_ways Pg Wd K mg Bh := c_open_ways T 
  have h_paper : C_paper Pg Wd K mg Bh := c_paper T h_open_ways
  have h_is_paper : C_is_paper Pg Wd K mg Bh := c_is_paper T h_open_ways
  have h_check_answer : C_check_answer Pg Wd K mg Bh := c_check_answer T h_is_paper h_road_sum
  have h_check_places : C_check_places Pg Wd K mg Bh := c_check_places T 
  have h_sums_over : C_sums_over Pg Wd K mg Bh := c_sums_over T h_check_places
  have h_up_sums : C_up_sums Pg Wd K mg Bh := c_up_sums T h_sums_over
  have h_down_sums : C_down_sums Pg Wd K mg Bh := c_down_sums T h_sums_over
  have h_meeting : C_meeting Pg Wd K mg Bh := c_meeting T 
  have h_answer : C_answer Pg Wd K mg Bh := c_answer T h_check_places h_up_sums h_down_sums h_meeting
  have h_answers : C_answers Pg Wd K mg Bh := c_answers T h_check_places h_up_sums h_down_sums h_meeting
  have h_joined : C_joined Pg Wd K mg Bh := c_joined T 
  have h_take_out : C_take_out Pg Wd K mg Bh := c_take_out T 
  have h_upper : C_upper Pg Wd K mg Bh := c_upper T h_ranks h_joined h_take_out
  have h_pairs : C_pairs Pg Wd K mg Bh := c_pairs T h_upper
  have h_triangles : C_triangles Pg Wd K mg Bh := c_triangles T h_ranks
  have h_lower_places : C_lower_places Pg Wd K mg Bh := c_lower_places T h_triangles
  have h_fill : C_fill Pg Wd K mg Bh := c_fill T h_pairs h_triangles h_link_prices h_best_way h_row_of
  have h_S_check : C_S_check Pg Wd K mg Bh := c_S_check T 
  have h_S_set : C_S_set Pg Wd K mg Bh := c_S_set T 
  have h_S_is_due : C_S_is_due Pg Wd K mg Bh := c_S_is_due T 
  have h_S_mend : C_S_mend Pg Wd K mg Bh := c_S_mend T h_S_is_due h_best_way
  have h_S_edit_all : C_S_edit_all Pg Wd K mg Bh := c_S_edit_all T h_S_check h_S_set h_S_mend
  have h_S_edit : C_S_edit Pg Wd K mg Bh := c_S_edit T h_S_edit_all
  have h_S_undo : C_S_undo Pg Wd K mg Bh := c_S_undo T h_S_set h_S_mend
  have h_S_net : C_S_net Pg Wd K mg Bh := c_S_net T 
  have h_S_filling : C_S_filling Pg Wd K mg Bh := c_S_filling T h_row_of
  have h_S_init : C_S_init Pg Wd K mg Bh := c_S_init T h_fill h_link_prices h_lower_places
  have h_S_copy : C_S_copy Pg Wd K mg Bh := c_S_copy T h_S_net h_S_init
  have h_filled_prices : C_filled_prices Pg Wd K mg Bh := c_filled_prices T 
  have h_total_prices : C_total_prices Pg Wd K mg Bh := c_total_prices T 
  have h_upper_of : C_upper_of Pg Wd K mg Bh := c_upper_of T 
  have h_way_of : C_way_of Pg Wd K mg Bh := c_way_of T 
  have h_road_of : C_road_of 16 Pg Wd K mg Bh := c_road_of T h_way_of 16
  have h_answer_road : C_answer_road Pg Wd K mg Bh := c_answer_road T h_check_places h_up_sums h_down_sums h_meeting h_road_of
  have h_least : C_least Pg Wd K mg Bh := c_least T 
  have h_true_prices : C_true_prices Pg Wd K mg Bh := c_true_prices T h_filled_prices h_total_prices h_upper_of h_least
  have h_slack_ways : C_slack_ways Pg Wd K mg Bh := c_slack_ways T h_filled_prices h_true_prices
  have h_without_slack : C_without_slack Pg Wd K mg Bh := c_without_slack T h_slack_ways
  have h_best_sum : C_best_sum Pg Wd K mg Bh := c_best_sum T 
  have h_grown : C_grown Pg Wd K mg Bh := c_grown T h_best_sum
  have h_entries : C_entries Pg Wd K mg Bh := c_entries T 
  have h_labels : C_labels Pg Wd K mg Bh := c_labels T h_up_sums h_down_sums h_grown h_entries
  have h_label_answer : C_label_answer Pg Wd K mg Bh := c_label_answer T h_best_sum
  have h_law_numbers : C_law_numbers Pg Wd K mg Bh := c_law_numbers T 
  have h_law_price : C_law_price Pg Wd K mg Bh := c_law_price T 
  have h_law_net : C_law_net Pg Wd K mg Bh := c_law_net T h_law_price
  have h_law_order : C_law_order Pg Wd K mg Bh := c_law_order T 
  have h_law_prices : C_law_prices Pg Wd K mg Bh := c_law_prices T 
  have h_law_sums : C_law_sums Pg Wd K mg Bh := c_law_sums T h_law_prices
  have h_law_road : C_law_road Pg Wd K mg Bh := c_law_road T 
  have h_law_set : C_law_set Pg Wd K mg Bh := c_law_set T 
  have h_law_changes : C_law_changes Pg Wd K mg Bh := c_law_changes T 
  have h_law_edit : C_law_edit Pg Wd K mg Bh := c_law_edit T h_law_price
  have h_law_answers : C_law_answers Pg Wd K mg Bh := c_law_answers T h_law_prices h_labels h_without_slack h_paper h_answers h_answer h_answer_road h_label_answer h_law_road h_check_answer
  have h_law_turn : C_law_turn Pg Wd K mg Bh := c_law_turn T h_law_edit h_law_set h_S_edit h_S_edit_all h_S_undo
  exact c_law T F h_law_numbers h_law_net h_law_order h_fill h_law_answers h_law_sums h_S_init h_S_filling h_S_net h_law_turn h_law_changes h_S_copy h_S_edit h_law_edit
abbrev R : PySem.W.OpenRow := PySem.W.OpenLaw.row PySem.Challenge.rw_overpasses_k44_whole_answers_behind_edit
abbrev hk : PySem.W.Hook := He.hookD 4 fa fn
def ob (s : PySem.W.SharedT) : He.AlD := He.obsDG 4 fa fn (HandSHeadRun.getT s)
theorem ob_eq (s : PySem.W.SharedT) : ob s = hk.obs s.abs := He.obsDG_eq (HandSHeadRun.getT_eq s)
theorem run (w : World) : HandSHeadRun.RunEq R (PySem.W.view R.prog [82]) hk ob 40000 names w := by
  intro os
  kernel_rfl
def spLaw (K : PySem.W.Frag) : Sp := spF (fOne (rScr K)) rBl (fun _ => True) (fun _ y => y = true)
theorem facts {P : Program} {w : World} {K : PySem.W.Frag} {h : Heap} {mg : Str → Option Value} {f : Addr} (X : K.In h) (G : h.Ns mainGlobals mg) (hfa : mg ("law" : Str) = some (.ref f)) (c : He.SaysD fa fn K) :
    ∃ fd : FuncData, (∀ (s : Shared) (v : Value), BindsTo s fd ⟨[v], []⟩ [("_law_script", v)]) ∧ ∀ base : Heap, K.In base → base.Ns mainGlobals mg → FnOk P w K mg base CX0 21 f fd ["_law_script"] (spLaw K) := by
  have T : Hd K mg := ⟨c, h, X, G⟩
  obtain ⟨fd, F⟩ := T.f_law
  have e := hfa.symm.trans T.g_law
  cases e
  have b := FunD.bindsA (ps := ["_law_script"]) F fun _ _ _ _ _ _ us hl => match us, hl with | [_], _ => rfl
  exact ⟨fd, fun s v => b s [v] rfl, fun base _ _ => ok_law T F⟩
end Ov
open PySem PySem.W PySem.Calls PyProof.Rows
theorem PySem.Challenge.cw_overpasses_k44_whole_answers_behind_edit_holds : PySem.Challenge.rw_overpasses_k44_whole_answers_behind_edit.Holds := by
  w_on; o_law
  refine HandSHeadRun.head_any (r := OpenLaw.row PySem.Challenge.rw_overpasses_k44_whole_answers_behind_edit) (q := view (OpenLaw.row PySem.Challenge.rw_overpasses_k44_whole_answers_behind_edit).prog [82]) (H := Ov.hk) (ob := Ov.ob) (M := 40000) (loose := Ov.names) (d := HandSHeadRun.topDef (OpenLaw.row PySem.Challenge.rw_overpasses_k44_whole_answers_behind_edit).prog 82) (kwd := []) Ov.ob_eq
    (by kernel_rfl) (fun s => by kernel_rfl) Ov.run (by kernel_rfl) (by kernel_rfl) (by kernel_rfl) (by rfl) (by first | assumption | decide +kernel) (by decide +kernel) ⟨rfl, rfl, rfl, rfl, rfl, by decide +kernel⟩ ?hw ?hc
  case hw => w_witness2
  case hc =>
    refine L2.walk_ofE (l := PySem.Challenge.rw_overpasses_k44_whole_answers_behind_edit) (n := 63) (k := 21) (x := "_law_script") (CX := L2.CX0) rfl (by decide) (by kernel_rfl) ⟨rfl, by decide, by decide⟩ ?F (fun _ _ _ _ z => z)
    intro w mg fa h Y G hmg0
    obtain ⟨K, KX, c⟩ := Y
    have hmg : mg ("law" : PySem.Str) = some (.ref fa) := by
      have e : (HandSHeadRun.topDef (OpenLaw.row PySem.Challenge.rw_overpasses_k44_whole_answers_behind_edit).prog 82).name = ("law" : PySem.Str) := by kernel_rfl
      rw [← e]
      exact hmg0
    obtain ⟨fd, hb, hF⟩ := Ov.facts (P := (PySem.Challenge.rw_overpasses_k44_whole_answers_behind_edit).prog) (w := w) KX G hmg c
    exact ⟨K, fd, Ov.spLaw K, KX, hb, fun H a ns hl _ hS => ⟨ns, H, L2.Same.refl H, ⟨_, rfl, a, rfl, hS⟩, trivial, fun u I' H' y _ z hy => by rw [← hy]; exact z⟩, hF⟩

import PyProof.Rows.All
import Wide.All
import OpenK.AllK
import Wide.FinOn
import HandS.ForExc
import HandS.HeadNt
import PySem.Challenge.RW_pressalike_k32_whole_standings_parted
import HandS.Head2
import HandS.HeadHook4
import HandS.HeadWalk
import HandS.ExcField
import HandS.ExcInit
import HandS.Style
import HandS.Deep
import HandS.TupSets
import KE.KSortTupG
import HandS.FStr
import HandS.FStrTup
import PyProof.ReprNest
import PyProof.FString2
import HandS.Defaults
import HandS.IsInst
import HandS.NoneIn
import HandS.Wide
import HandS.ForMost
import HandS.Evl
import HandS.MakeKwOnly
import HandS.Lambda
import HandS.EndTab
set_option maxRecDepth 100000
/-! The mirrors of the law's and the program's own pages, and what the law needs of them. Plain Lean. -/
namespace K32
/-! ### standings, blocks, lines -/
inductive Wd where
  | top | op | kp
  deriving DecidableEq, Repr
structure Sd where
  w : Wd
  h : Nat
  b : Nat
  deriving DecidableEq, Repr
/-- a standing of pages of that length -/
def Sd.ok (L : Nat) (s : Sd) : Bool := match s.w with
  | .top => decide (s.h = 0) && decide (s.b = 0)
  | .op => decide (1 ≤ s.h) && decide (s.h < L) && decide (s.b = 0)
  | .kp => decide (1 ≤ s.h) && decide (s.h ≤ L) && decide (s.b < s.h) && (decide (s.h < L) || decide (0 < s.b))
def kepts (L h : Nat) : List Sd := ((List.range h).filter fun b => decide (h < L) || decide (0 < b)).map fun b => ⟨.kp, h, b⟩
/-- the law's row of standings -/
def lawSds (L : Nat) : List Sd := ((List.range L).flatMap fun h => kepts L (h + 1)) ++ (List.range (L - 1)).map (fun h => ⟨.op, h + 1, 0⟩) ++ [⟨.top, 0, 0⟩]
/-- the program's row of standings, ahead of its sort -/
def progRow (L h : Nat) : List Sd := (if h < L then [⟨.op, h, 0⟩] else []) ++ kepts L h
def progSds (L : Nat) : List Sd := ⟨.top, 0, 0⟩ :: (List.range L).flatMap fun h => progRow L (h + 1)
/-- count, space, kept, page -/
abbrev Blk := Nat × Int × Bool × Bool
/-- space, barred, due -/
abbrev Ln := Int × Bool × Bool
/-- begins a page, row -/
abbrev Rw := Bool × Int
def blkLine (n : Nat) (sp : Int) (ba du : Bool) (k : Nat) : Ln := if k = 0 then (sp, ba, du) else (0, decide (k = 1) || decide (k + 1 = n), false)
def blkLines (n : Nat) (sp : Int) (ba du : Bool) : List Ln := (List.range n).map (blkLine n sp ba du)
def stepB (s : List Ln × Bool × Bool) (b : Blk) : List Ln × Bool × Bool :=
  (s.1 ++ blkLines b.1 b.2.1 s.2.1 (s.2.2 || b.2.2.2), (if 0 < b.1 then b.2.2.1 else s.2.1), ((s.2.2 || b.2.2.2) && decide (b.1 = 0)))
def linesB (bs : List Blk) : List Ln × Bool × Bool := bs.foldl stepB ([], false, true)
def lead (s : Sd) : List Blk := match s.w with
  | .kp => if s.b = 0 then List.replicate s.h (1, 0, true, false) else List.replicate (s.h - s.b) (1, 0, false, false) ++ List.replicate s.b (1, 0, true, false)
  | _ => List.replicate s.h (1, 0, false, false)
/-! ### the law's pages -/
/-- how many lines of the page follow its first one: rest, the lines behind it -/
def cutR (L : Nat) : List Ln → Nat → Int → Option Nat → Nat
  | [], i, _, _ => i
  | l :: r, i, row, fr =>
    if l.2.2 = true then i
    else if (L : Int) ≤ row + l.1 + 1 then (if l.2.1 = true then fr else some i).getD i
    else cutR L r (i + 1) (row + l.1 + 1) (if l.2.1 = true then fr else some i)
/-- the rows: d lines are still on the page, the last row -/
def pg (L : Nat) : List Ln → Nat → Int → List Rw
  | [], _, _ => []
  | _ :: r, 0, _ => (true, 0) :: pg L r (cutR L r 0 0 none) 0
  | l :: r, d + 1, last => (false, last + l.1 + 1) :: pg L r d (last + l.1 + 1)
def pages (L : Nat) (ls : List Ln) : List Rw := pg L ls 0 0
def behind (L : Nat) (s : Sd) (bs : List Blk) : List Rw := (pages L (linesB (lead s ++ bs)).1).drop (linesB (lead s)).1.length
/-! ### the program's pages -/
structure Pg where
  done : List Rw
  ph : Option Int
  lo : List Rw
  high : Int
  bar : Bool
  deriving DecidableEq
def Pg.new : Pg := ⟨[], none, [], 0, false⟩
def Pg.res (s : Sd) : Pg := ⟨[], (if 0 < s.b then some ((s.h : Int) - s.b) else none), [], s.h, decide (s.w = .kp)⟩
def Pg.isLoose (p : Pg) : Bool := p.ph.isSome || !p.lo.isEmpty
def Pg.stay (p : Pg) : Pg := { p with done := p.done ++ p.lo, ph := none, lo := [] }
def Pg.shift (p : Pg) : Int := match p.ph with
  | some r => r
  | none => match p.lo with
    | [] => 0
    | l :: _ => l.2
def setTrue : List Rw → List Rw
  | [] => []
  | l :: r => (true, l.2) :: r
def Pg.goneLo (p : Pg) : List Rw := if p.ph.isSome = true then p.lo.map (fun l => (l.1, l.2 - p.shift)) else setTrue (p.lo.map fun l => (l.1, l.2 - p.shift))
def Pg.goOver (p : Pg) : Pg := { p with done := p.done ++ p.goneLo, ph := none, lo := [], high := p.high - p.shift }
def Pg.put (L : Nat) (p : Pg) (sp : Int) (ba : Bool) : Pg :=
  if p.high = 0 ∨ (L : Int) ≤ p.high + sp then { p.stay with done := p.stay.done ++ [(true, 0)], high := 1 }
  else if ba = false then { p.stay with lo := [(false, p.high + sp)], high := p.high + sp + 1 }
  else if p.isLoose = true then { p with lo := p.lo ++ [(false, p.high + sp)], high := p.high + sp + 1 }
  else { p with done := p.done ++ [(false, p.high + sp)], high := p.high + sp + 1 }
def Pg.over (L : Nat) (p : Pg) (sp : Int) (ba : Bool) : Bool := decide (0 < p.high) && decide ((L : Int) ≤ p.high + sp) && ba && p.isLoose
def Pg.line (L : Nat) (p : Pg) (sp : Int) (ba : Bool) : Pg := (if p.over L sp ba = true then p.goOver else p).put L sp ba
def Pg.begin (p : Pg) : Pg := { p.stay with high := 0, bar := false }
def Pg.lineAt (L n : Nat) (sp : Int) (p : Pg) (k : Nat) : Pg := if k = 0 then p.line L sp p.bar else p.line L 0 (decide (k = 1) || decide (k + 1 = n))
def Pg.lines (L n : Nat) (sp : Int) (p : Pg) (m : Nat) : Pg := (List.range m).foldl (Pg.lineAt L n sp) p
def Pg.close (p : Pg) (n : Nat) (ke : Bool) : Pg := if 0 < n then (if ke = true then { p with bar := ke } else { p with bar := ke }.stay) else p
def Pg.block (L : Nat) (p : Pg) (b : Blk) : Pg := ((if b.2.2.2 = true then p.begin else p).lines L b.1 b.2.1 b.1).close b.1 b.2.2.1
def Pg.finish (p : Pg) : List Rw := p.done ++ p.lo
def resumed (L : Nat) (s : Sd) (bs : List Blk) : List Rw := (bs.foldl (Pg.block L) (Pg.res s)).finish
/-! ### what parts two standings -/
def nextLine (L : Nat) (s : Sd) : Bool × Nat := match s.w with
  | .top => (true, 0)
  | _ => (false, if s.h = L then s.b else s.h)
def twins (L row : Nat) : List Sd := [⟨.kp, row, 0⟩, ⟨.kp, L, row⟩]
def tellB (L row : Nat) : List Blk := List.replicate (L - row) (1, 0, true, false) ++ [(1, 0, false, false)]
def told (L : Nat) (one two : Sd) : Option (List Blk) :=
  if nextLine L two ≠ nextLine L one then some [(1, 0, false, false)]
  else if one = two ∨ (one ∈ twins L (nextLine L one).2 ∧ two ∈ twins L (nextLine L one).2) then none
  else some (tellB L (nextLine L one).2)
/-- the law's own list of twins -/
def lawTwins (L : Nat) (one two : Sd) : List Sd := ((List.range (L - 1)).filter fun i => decide ((⟨.kp, i + 1, 0⟩ : Sd) = one ∨ (⟨.kp, i + 1, 0⟩ : Sd) = two)).map fun i => ⟨.kp, L, i + 1⟩
def lawSame (L : Nat) (one two : Sd) : Bool := decide (one = two) || !((lawTwins L one two).filter fun t => decide (t = one ∨ t = two)).isEmpty
end K32

set_option maxRecDepth 100000
set_option maxHeartbeats 4000000
namespace K32
/-! ### what can be looked at case by case: the lengths are 2 to 9 -/
def chkOne (L : Nat) (s : Sd) : Bool :=
  decide (behind L s [(1, 0, false, false)] = [((nextLine L s).1, ((nextLine L s).2 : Int))]) && decide (resumed L s [(1, 0, false, false)] = [((nextLine L s).1, ((nextLine L s).2 : Int))])
def isTwin (L : Nat) (one two : Sd) : Bool := (List.range (L - 1)).any fun i => (decide (one = ⟨.kp, L, i + 1⟩) && decide (two = ⟨.kp, i + 1, 0⟩)) || (decide (two = ⟨.kp, L, i + 1⟩) && decide (one = ⟨.kp, i + 1, 0⟩))
def chkTwo (L : Nat) (one two : Sd) : Bool :=
  if lawSame L one two = true then decide (told L one two = none) && (decide (one = two) || isTwin L one two)
  else if nextLine L one = nextLine L two then
    decide (told L one two = some (tellB L (nextLine L one).2)) && decide (told L two one = some (tellB L (nextLine L one).2)) &&
      !decide (behind L one (tellB L (nextLine L one).2) = behind L two (tellB L (nextLine L one).2)) && !decide (resumed L one (tellB L (nextLine L one).2) = resumed L two (tellB L (nextLine L one).2))
  else true
def chk (L : Nat) : Bool := (lawSds L).all fun one => chkOne L one && (lawSds L).all fun two => chkTwo L one two
theorem chk2 : chk 2 = true := by decide +kernel
theorem chk3 : chk 3 = true := by decide +kernel
theorem chk4 : chk 4 = true := by decide +kernel
theorem chk5 : chk 5 = true := by decide +kernel
theorem chk6 : chk 6 = true := by decide +kernel
theorem chk7 : chk 7 = true := by decide +kernel
theorem chk8 : chk 8 = true := by decide +kernel
theorem chk9 : chk 9 = true := by decide +kernel
end K32

set_option maxRecDepth 100000
set_option maxHeartbeats 4000000
namespace K32
/-! ### the members -/
theorem mem_kepts {L h : Nat} {s : Sd} : s ∈ kepts L h ↔ s.w = .kp ∧ s.h = h ∧ s.b < h ∧ (h < L ∨ 0 < s.b) := by
  obtain ⟨w, h', b⟩ := s
  simp only [kepts, List.mem_map, List.mem_filter, List.mem_range, Bool.or_eq_true, decide_eq_true_eq, Sd.mk.injEq]
  constructor
  · rintro ⟨a, ⟨h1, h2⟩, rfl, rfl, rfl⟩
    exact ⟨rfl, rfl, h1, h2⟩
  · rintro ⟨rfl, rfl, h1, h2⟩
    exact ⟨b, ⟨h1, h2⟩, rfl, rfl, rfl⟩
theorem mem_lawSds {L : Nat} {s : Sd} : s ∈ lawSds L ↔ s.ok L = true := by
  obtain ⟨w, h, b⟩ := s
  simp only [lawSds, List.mem_append, List.mem_flatMap, List.mem_range, mem_kepts, List.mem_map, List.mem_singleton, Sd.mk.injEq]
  cases w
  · simp [Sd.ok]
  · simp only [Sd.ok, Bool.and_eq_true, decide_eq_true_eq]
    constructor
    · rintro ((⟨a, _, h1, _⟩ | ⟨a, h1, _, rfl, rfl⟩) | ⟨h1, _⟩)
      · cases h1
      · omega
      · cases h1
    · rintro ⟨⟨h1, h2⟩, rfl⟩
      exact .inl (.inr ⟨h - 1, by omega, by simp; omega⟩)
  · simp only [Sd.ok, Bool.and_eq_true, Bool.or_eq_true, decide_eq_true_eq]
    constructor
    · rintro ((⟨a, h1, _, rfl, h2, h3⟩ | ⟨a, h1, h2, _⟩) | ⟨h1, _⟩)
      · omega
      · cases h2
      · cases h1
    · rintro ⟨⟨⟨h1, h2⟩, h3⟩, h4⟩
      exact .inl (.inl ⟨h - 1, by omega, by simp; omega⟩)
theorem mem_progSds {L : Nat} {s : Sd} : s ∈ progSds L ↔ s.ok L = true := by
  obtain ⟨w, h, b⟩ := s
  simp only [progSds, progRow, List.mem_cons, List.mem_flatMap, List.mem_range, List.mem_append, mem_kepts, Sd.mk.injEq]
  cases w
  · simp [Sd.ok]
  · simp only [Sd.ok, Bool.and_eq_true, decide_eq_true_eq]
    constructor
    · rintro (⟨h1, _⟩ | ⟨a, h1, h2 | ⟨h2, _⟩⟩)
      · cases h1
      · split at h2
        · simp at h2
          omega
        · simp at h2
      · cases h2
    · rintro ⟨⟨h1, h2⟩, rfl⟩
      refine .inr ⟨h - 1, by omega, .inl ?_⟩
      rw [if_pos (by omega)]
      simp
      omega
  · simp only [Sd.ok, Bool.and_eq_true, Bool.or_eq_true, decide_eq_true_eq]
    constructor
    · rintro (⟨h1, _⟩ | ⟨a, h1, h2 | ⟨_, rfl, h3, h4⟩⟩)
      · cases h1
      · split at h2
        · simp at h2
        · simp at h2
      · omega
    · rintro ⟨⟨⟨h1, h2⟩, h3⟩, h4⟩
      exact .inr ⟨h - 1, by omega, .inr (by simp; omega)⟩
/-! ### lines -/
def linesFrom (ba du : Bool) : List Blk → List Ln
  | [] => []
  | b :: r => blkLines b.1 b.2.1 ba (du || b.2.2.2) ++ linesFrom (if 0 < b.1 then b.2.2.1 else ba) ((du || b.2.2.2) && decide (b.1 = 0)) r
theorem lines_fold : ∀ (bs : List Blk) (acc : List Ln) (ba du : Bool), (bs.foldl stepB (acc, ba, du)).1 = acc ++ linesFrom ba du bs
  | [], acc, _, _ => by simp [linesFrom]
  | b :: r, acc, ba, du => by
    rw [List.foldl_cons]
    show (r.foldl stepB (acc ++ blkLines b.1 b.2.1 ba (du || b.2.2.2), (if 0 < b.1 then b.2.2.1 else ba), ((du || b.2.2.2) && decide (b.1 = 0)))).1 = _
    rw [lines_fold r]
    simp [linesFrom, List.append_assoc]
theorem linesB_eq (bs : List Blk) : (linesB bs).1 = linesFrom false true bs := by
  unfold linesB
  rw [lines_fold, List.nil_append]
theorem lines_one (n : Nat) (ke ba du : Bool) (r : List Blk) : linesFrom ba du (List.replicate (n + 1) ((1, 0, ke, false) : Blk) ++ r) = (0, ba, du) :: (List.replicate n ((0, ke, false) : Ln) ++ linesFrom ke false r) := by
  induction n generalizing ba du with
  | zero =>
    show blkLines 1 0 ba (du || false) ++ linesFrom ke ((du || false) && decide ((1 : Nat) = 0)) r = _
    simp [blkLines, blkLine]
  | succ n ih =>
    rw [List.replicate_succ, List.cons_append]
    show blkLines 1 0 ba (du || false) ++ linesFrom ke ((du || false) && decide ((1 : Nat) = 0)) (List.replicate (n + 1) ((1, 0, ke, false) : Blk) ++ r) = _
    have e : ((du || false) && decide ((1 : Nat) = 0)) = false := by simp
    rw [e, ih]
    simp [blkLines, blkLine, List.replicate_succ]
/-- the lines ahead of which kept blocks stand: the first is barred -/
theorem head_from : ∀ (bs : List Blk) {ba : Bool} {l : Ln} {r : List Ln} {du : Bool}, (∀ b ∈ bs, 0 ≤ b.2.1) → linesFrom ba du bs = l :: r → l.2.1 = ba ∧ 0 ≤ l.1
  | [], _, _, _, _, _, h => by cases h
  | (n, sp, ke, pgn) :: bs, ba, l, r, du, hb, h => by
    have hb0 : 0 ≤ sp := hb _ List.mem_cons_self
    have hb' : ∀ b ∈ bs, 0 ≤ b.2.1 := fun b q => hb b (List.mem_cons_of_mem _ q)
    have h' : blkLines n sp ba (du || pgn) ++ linesFrom (if 0 < n then ke else ba) ((du || pgn) && decide (n = 0)) bs = l :: r := h
    cases n with
    | zero =>
      have h2 : linesFrom ba ((du || pgn) && decide ((0 : Nat) = 0)) bs = l :: r := by
        have e : blkLines 0 sp ba (du || pgn) = [] := rfl
        rw [e, List.nil_append, if_neg (by omega)] at h'
        exact h'
      exact head_from bs hb' h2
    | succ n =>
      have e : blkLines (n + 1) sp ba (du || pgn) = (sp, ba, du || pgn) :: (List.map (blkLine (n + 1) sp ba (du || pgn)) (List.map (· + 1) (List.range n))) := by
        unfold blkLines
        rw [List.range_succ_eq_map]
        rfl
      rw [e] at h'
      injection h' with h1 _
      rw [← h1]
      exact ⟨rfl, hb0⟩
/-! ### the law's pages of two twins -/
theorem pg_len (L : Nat) : ∀ (ls : List Ln) (d : Nat) (last : Int), (pg L ls d last).length = ls.length
  | [], _, _ => rfl
  | l :: r, 0, last => by
    show (pg L r _ 0).length + 1 = r.length + 1
    rw [pg_len]
  | l :: r, d + 1, last => by
    show (pg L r d _).length + 1 = r.length + 1
    rw [pg_len]
theorem pg_skip (L : Nat) : ∀ (ls r : List Ln) (d : Nat) (last : Int), ls.length ≤ d → ∃ last', (pg L (ls ++ r) d last).drop ls.length = pg L r (d - ls.length) last'
  | [], r, d, last, _ => ⟨last, rfl⟩
  | l :: ls, r, 0, last, h => by simp at h
  | l :: ls, r, d + 1, last, h => by
    obtain ⟨x, hx⟩ := pg_skip L ls r d (last + l.1 + 1) (by simpa using h)
    refine ⟨x, ?_⟩
    show (pg L (ls ++ r) d (last + l.1 + 1)).drop ls.length = pg L r (d + 1 - (ls.length + 1)) x
    rw [hx, Nat.add_sub_add_right]
theorem pg_zero (L : Nat) (r : List Ln) (x y : Int) : pg L r 0 x = pg L r 0 y := by
  cases r <;> rfl
theorem cut_free (L : Nat) (r : List Ln) : ∀ (n i : Nat) (row : Int) (fr : Option Nat), row + n < L → 0 < n →
    cutR L (List.replicate n ((0, false, false) : Ln) ++ r) i row fr = cutR L r (i + n) (row + n) (some (i + n - 1))
  | 0, _, _, _, _, h => by omega
  | n + 1, i, row, fr, h, _ => by
    rw [List.replicate_succ, List.cons_append]
    show (if (false = true) then i else if (L : Int) ≤ row + 0 + 1 then _ else cutR L (List.replicate n ((0, false, false) : Ln) ++ r) (i + 1) (row + 0 + 1) (some i)) = _
    rw [if_neg (by decide), if_neg (by omega)]
    cases n with
    | zero =>
      have e1 : row + 0 + 1 = row + ((0 + 1 : Nat) : Int) := by omega
      have e2 : i + (0 + 1) - 1 = i := by omega
      rw [e1, e2]
      rfl
    | succ n =>
      rw [cut_free L r (n + 1) (i + 1) (row + 0 + 1) (some i) (by omega) (by omega)]
      have e1 : row + 0 + 1 + ((n + 1 : Nat) : Int) = row + ((n + 1 + 1 : Nat) : Int) := by omega
      have e2 : i + 1 + (n + 1) = i + (n + 1 + 1) := by omega
      rw [e1, e2]
theorem cut_bar (L : Nat) (r : List Ln) : ∀ (n i : Nat) (row : Int) (fr : Option Nat), row + n < L →
    cutR L (List.replicate n ((0, true, false) : Ln) ++ r) i row fr = cutR L r (i + n) (row + n) fr
  | 0, i, row, fr, _ => by
    have e1 : row + ((0 : Nat) : Int) = row := by omega
    rw [e1]
    rfl
  | n + 1, i, row, fr, h => by
    rw [List.replicate_succ, List.cons_append]
    show (if (false = true) then i else if (L : Int) ≤ row + 0 + 1 then _ else cutR L (List.replicate n ((0, true, false) : Ln) ++ r) (i + 1) (row + 0 + 1) fr) = _
    rw [if_neg (by decide), if_neg (by omega), cut_bar L r n (i + 1) (row + 0 + 1) fr (by omega)]
    have e1 : row + 0 + 1 + (n : Int) = row + ((n + 1 : Nat) : Int) := by omega
    have e2 : i + 1 + n = i + (n + 1) := by omega
    rw [e1, e2]
theorem behind_twin (L b : Nat) (bs : List Blk) (h1 : 1 ≤ b) (h2 : b < L) (hb : ∀ x ∈ bs, 0 ≤ x.2.1) : behind L ⟨.kp, L, b⟩ bs = behind L ⟨.kp, b, 0⟩ bs := by
  obtain ⟨c, rfl⟩ : ∃ c, b = c + 1 := ⟨b - 1, by omega⟩
  obtain ⟨e, rfl⟩ : ∃ e, L = c + 1 + (e + 1) := ⟨L - (c + 1) - 1, by omega⟩
  generalize hR : linesFrom true false bs = R
  have l1 : lead ⟨.kp, c + 1 + (e + 1), c + 1⟩ = List.replicate (e + 1) (1, 0, false, false) ++ List.replicate (c + 1) (1, 0, true, false) := by
    show (if (c + 1 : Nat) = 0 then List.replicate (c + 1 + (e + 1)) ((1, 0, true, false) : Blk) else List.replicate (c + 1 + (e + 1) - (c + 1)) (1, 0, false, false) ++ List.replicate (c + 1) (1, 0, true, false)) = _
    rw [if_neg (by omega), Nat.add_sub_cancel_left]
  have l2 : lead ⟨.kp, c + 1, 0⟩ = List.replicate (c + 1) (1, 0, true, false) := rfl
  have f1 : ∀ r, linesFrom false true (lead ⟨.kp, c + 1 + (e + 1), c + 1⟩ ++ r) = (0, false, true) :: (List.replicate e ((0, false, false) : Ln) ++ (0, false, false) :: (List.replicate c (0, true, false) ++ linesFrom true false r)) := fun r => by
    rw [l1, List.append_assoc, lines_one, lines_one]
  have f2 : ∀ r, linesFrom false true (lead ⟨.kp, c + 1, 0⟩ ++ r) = (0, false, true) :: (List.replicate c (0, true, false) ++ linesFrom true false r) := fun r => by
    rw [l2, lines_one]
  have n1 : (linesB (lead ⟨.kp, c + 1 + (e + 1), c + 1⟩)).1.length = e + 1 + (c + 1) := by
    have q := f1 []
    rw [List.append_nil] at q
    rw [linesB_eq, q]
    simp [linesFrom]
    omega
  have n2 : (linesB (lead ⟨.kp, c + 1, 0⟩)).1.length = c + 1 := by
    have q := f2 []
    rw [List.append_nil] at q
    rw [linesB_eq, q]
    simp [linesFrom]
  unfold behind pages
  rw [n1, n2, linesB_eq, linesB_eq, f1, f2, hR]
  generalize hL : c + 1 + (e + 1) = L
  -- the second one
  have c2 : cutR L (List.replicate c ((0, true, false) : Ln) ++ R) 0 0 none = cutR L R c c none := by
    rw [cut_bar L R c 0 0 none (by omega), Nat.zero_add, Int.zero_add]
  -- the first one
  have c1 : cutR L (List.replicate e ((0, false, false) : Ln) ++ (0, false, false) :: (List.replicate c (0, true, false) ++ R)) 0 0 none = cutR L R (e + 1 + c) ((e + 1 + c : Nat) : Int) (some e) := by
    have q : List.replicate e ((0, false, false) : Ln) ++ (0, false, false) :: (List.replicate c (0, true, false) ++ R) = List.replicate (e + 1) ((0, false, false) : Ln) ++ (List.replicate c (0, true, false) ++ R) := by
      rw [List.replicate_succ']
      simp
    rw [q, cut_free L _ (e + 1) 0 0 none (by omega) (by omega), cut_bar L R c (0 + (e + 1)) _ _ (by omega)]
    have e1 : 0 + (e + 1) + c = e + 1 + c := by omega
    have e2 : (0 : Int) + ((e + 1 : Nat) : Int) + (c : Int) = ((e + 1 + c : Nat) : Int) := by omega
    have e3 : 0 + (e + 1) - 1 = e := by omega
    rw [e1, e2, e3]
  show (pg L (List.replicate e (0, false, false) ++ (0, false, false) :: (List.replicate c (0, true, false) ++ R)) _ 0).drop (e + 1 + c) = (pg L (List.replicate c (0, true, false) ++ R) _ 0).drop c
  rw [c1, c2]
  have whole : ∀ x : Int, ∃ x', (pg L (List.replicate e (0, false, false) ++ (0, false, false) :: (List.replicate c (0, true, false) ++ R)) (e + 1 + c) x).drop (e + 1 + c) = pg L R 0 x' := fun x => by
    have q : List.replicate e ((0, false, false) : Ln) ++ (0, false, false) :: (List.replicate c (0, true, false) ++ R) = (List.replicate e ((0, false, false) : Ln) ++ (0, false, false) :: List.replicate c (0, true, false)) ++ R := by simp
    have hl : (List.replicate e ((0, false, false) : Ln) ++ (0, false, false) :: List.replicate c (0, true, false)).length = e + 1 + c := by simp; omega
    obtain ⟨y, hy⟩ := pg_skip L (List.replicate e ((0, false, false) : Ln) ++ (0, false, false) :: List.replicate c (0, true, false)) R (e + 1 + c) x (by omega)
    rw [hl, Nat.sub_self] at hy
    exact ⟨y, by rw [q]; exact hy⟩
  have whole2 : ∀ x : Int, ∃ x', (pg L (List.replicate c ((0, true, false) : Ln) ++ R) c x).drop c = pg L R 0 x' := fun x => by
    obtain ⟨y, hy⟩ := pg_skip L (List.replicate c ((0, true, false) : Ln)) R c x (by simp)
    rw [List.length_replicate, Nat.sub_self] at hy
    exact ⟨y, hy⟩
  cases R with
  | nil =>
    have d1 : cutR L [] (e + 1 + c) ((e + 1 + c : Nat) : Int) (some e) = e + 1 + c := rfl
    have d2 : cutR L [] c (c : Int) none = c := rfl
    rw [d1, d2]
    obtain ⟨x, hx⟩ := whole 0
    obtain ⟨y, hy⟩ := whole2 0
    rw [hx, hy]
    rfl
  | cons l r =>
    obtain ⟨hba, hsp⟩ := head_from bs hb hR
    by_cases hd : l.2.2 = true
    · have d1 : cutR L (l :: r) (e + 1 + c) ((e + 1 + c : Nat) : Int) (some e) = e + 1 + c := if_pos hd
      have d2 : cutR L (l :: r) c (c : Int) none = c := if_pos hd
      rw [d1, d2]
      obtain ⟨x, hx⟩ := whole 0
      obtain ⟨y, hy⟩ := whole2 0
      rw [hx, hy]
      exact pg_zero _ _ _ _
    · have d1 : cutR L (l :: r) (e + 1 + c) ((e + 1 + c : Nat) : Int) (some e) = e := by
        show (if l.2.2 = true then _ else if (L : Int) ≤ ((e + 1 + c : Nat) : Int) + l.1 + 1 then (if l.2.1 = true then some e else some (e + 1 + c)).getD (e + 1 + c) else _) = e
        rw [if_neg hd, if_pos (by omega), if_pos hba]
        rfl
      rw [d1]
      obtain ⟨x, hx⟩ := pg_skip L (List.replicate e ((0, false, false) : Ln)) ((0, false, false) :: (List.replicate c (0, true, false) ++ l :: r)) e 0 (by simp)
      rw [List.length_replicate, Nat.sub_self] at hx
      have e0 : e + 1 + c = e + (1 + c) := by omega
      rw [e0, ← List.drop_drop, hx]
      rw [Nat.add_comm 1 c]
      show (pg L (List.replicate c (0, true, false) ++ l :: r) (cutR L (List.replicate c ((0, true, false) : Ln) ++ l :: r) 0 0 none) 0).drop c = _
      rw [c2]
/-! ### the program's pages of two twins -/
theorem line_twin (L b : Nat) (sp : Int) (h1 : 1 ≤ b) (h2 : b < L) (hs : 0 ≤ sp) : (Pg.res ⟨.kp, L, b⟩).line L sp true = (Pg.res ⟨.kp, b, 0⟩).line L sp true := by
  have e1 : Pg.res ⟨.kp, L, b⟩ = ⟨[], some ((L : Int) - b), [], L, true⟩ := by
    unfold Pg.res
    rw [if_pos (show 0 < b by omega)]
    rfl
  have e2 : Pg.res ⟨.kp, b, 0⟩ = ⟨[], none, [], b, true⟩ := rfl
  have o1 : (Pg.mk [] (some ((L : Int) - b)) [] L true).over L sp true = true := by
    have q1 : decide ((0 : Int) < (L : Int)) = true := decide_eq_true (by omega)
    have q2 : decide ((L : Int) ≤ (L : Int) + sp) = true := decide_eq_true (by omega)
    show (decide ((0 : Int) < (L : Int)) && decide ((L : Int) ≤ (L : Int) + sp) && true && true) = true
    rw [q1, q2]
    rfl
  have o2 : (Pg.mk [] none [] b true).over L sp true = false := by
    show (decide ((0 : Int) < (b : Int)) && decide ((L : Int) ≤ (b : Int) + sp) && true && false) = false
    simp
  have g : (Pg.mk [] (some ((L : Int) - b)) [] L true).goOver = Pg.mk [] none [] b true := by
    show Pg.mk [] none [] ((L : Int) - ((L : Int) - b)) true = _
    have q : (L : Int) - ((L : Int) - b) = b := by omega
    rw [q]
  unfold Pg.line
  rw [e1, e2, o1, o2, g]
  rfl
theorem block_twin (L b : Nat) (x : Blk) (h1 : 1 ≤ b) (h2 : b < L) (hs : 0 ≤ x.2.1) :
    (Pg.res ⟨.kp, L, b⟩).block L x = (Pg.res ⟨.kp, b, 0⟩).block L x ∨ ((Pg.res ⟨.kp, L, b⟩).block L x = Pg.res ⟨.kp, L, b⟩ ∧ (Pg.res ⟨.kp, b, 0⟩).block L x = Pg.res ⟨.kp, b, 0⟩) := by
  obtain ⟨n, sp, ke, pgn⟩ := x
  cases pgn with
  | true =>
    refine .inl ?_
    have e : (Pg.res ⟨.kp, L, b⟩).begin = (Pg.res ⟨.kp, b, 0⟩).begin := rfl
    show (((Pg.res ⟨.kp, L, b⟩).begin).lines L n sp n).close n ke = (((Pg.res ⟨.kp, b, 0⟩).begin).lines L n sp n).close n ke
    rw [e]
  | false =>
    cases n with
    | zero => exact .inr ⟨rfl, rfl⟩
    | succ n =>
      refine .inl ?_
      show ((Pg.res ⟨.kp, L, b⟩).lines L (n + 1) sp (n + 1)).close (n + 1) ke = ((Pg.res ⟨.kp, b, 0⟩).lines L (n + 1) sp (n + 1)).close (n + 1) ke
      unfold Pg.lines
      rw [List.range_succ_eq_map, List.foldl_cons, List.foldl_cons]
      have e : Pg.lineAt L (n + 1) sp (Pg.res ⟨.kp, L, b⟩) 0 = Pg.lineAt L (n + 1) sp (Pg.res ⟨.kp, b, 0⟩) 0 := line_twin L b sp h1 h2 hs
      rw [e]
theorem resumed_twin (L b : Nat) (h1 : 1 ≤ b) (h2 : b < L) : ∀ bs : List Blk, (∀ x ∈ bs, 0 ≤ x.2.1) → resumed L ⟨.kp, L, b⟩ bs = resumed L ⟨.kp, b, 0⟩ bs
  | [], _ => rfl
  | x :: bs, hb => by
    unfold resumed
    rw [List.foldl_cons, List.foldl_cons]
    rcases block_twin L b x h1 h2 (hb _ List.mem_cons_self) with e | ⟨e1, e2⟩
    · rw [e]
    · rw [e1, e2]
      exact resumed_twin L b h1 h2 bs fun y q => hb y (List.mem_cons_of_mem _ q)
/-! ### what the law asks -/
theorem chk_all {L : Nat} (h1 : 2 ≤ L) (h2 : L ≤ 9) : chk L = true := by
  have : L = 2 ∨ L = 3 ∨ L = 4 ∨ L = 5 ∨ L = 6 ∨ L = 7 ∨ L = 8 ∨ L = 9 := by omega
  rcases this with rfl | rfl | rfl | rfl | rfl | rfl | rfl | rfl
  · exact chk2
  · exact chk3
  · exact chk4
  · exact chk5
  · exact chk6
  · exact chk7
  · exact chk8
  · exact chk9
theorem chk_one {L : Nat} {s : Sd} (h1 : 2 ≤ L) (h2 : L ≤ 9) (hs : s.ok L = true) : behind L s [(1, 0, false, false)] = [((nextLine L s).1, ((nextLine L s).2 : Int))] ∧ resumed L s [(1, 0, false, false)] = [((nextLine L s).1, ((nextLine L s).2 : Int))] := by
  have h := List.all_eq_true.mp (chk_all h1 h2) s (mem_lawSds.mpr hs)
  rw [Bool.and_eq_true] at h
  have h := h.1
  unfold chkOne at h
  rw [Bool.and_eq_true, decide_eq_true_eq, decide_eq_true_eq] at h
  exact h
theorem chk_two {L : Nat} {one two : Sd} (h1 : 2 ≤ L) (h2 : L ≤ 9) (ho : one.ok L = true) (ht : two.ok L = true) : chkTwo L one two = true := by
  have h := List.all_eq_true.mp (chk_all h1 h2) one (mem_lawSds.mpr ho)
  rw [Bool.and_eq_true] at h
  exact List.all_eq_true.mp h.2 two (mem_lawSds.mpr ht)
/-- two that the law takes for the same: nothing is told, and all blocks come out alike -/
theorem same_alike {L : Nat} {one two : Sd} (h1 : 2 ≤ L) (h2 : L ≤ 9) (ho : one.ok L = true) (ht : two.ok L = true) (hs : lawSame L one two = true) :
    told L one two = none ∧ ∀ bs : List Blk, (∀ x ∈ bs, 0 ≤ x.2.1) → resumed L one bs = resumed L two bs ∧ behind L one bs = behind L two bs := by
  have h := chk_two h1 h2 ho ht
  unfold chkTwo at h
  rw [if_pos hs, Bool.and_eq_true, decide_eq_true_eq] at h
  refine ⟨h.1, fun bs hb => ?_⟩
  rcases Bool.or_eq_true_iff.mp h.2 with e | e
  · rw [decide_eq_true_eq.mp e]
    exact ⟨rfl, rfl⟩
  · unfold isTwin at e
    obtain ⟨i, hi, e⟩ := List.any_eq_true.mp e
    have hi := List.mem_range.mp hi
    simp only [Bool.or_eq_true, Bool.and_eq_true, decide_eq_true_eq] at e
    rcases e with ⟨e1, e2⟩ | ⟨e1, e2⟩
    · rw [e1, e2]
      exact ⟨resumed_twin L (i + 1) (by omega) (by omega) bs hb, behind_twin L (i + 1) bs (by omega) (by omega) hb⟩
    · rw [e1, e2]
      exact ⟨(resumed_twin L (i + 1) (by omega) (by omega) bs hb).symm, (behind_twin L (i + 1) bs (by omega) (by omega) hb).symm⟩
/-- two others: blocks are told, the same both ways, and they part them -/
theorem others_part {L : Nat} {one two : Sd} (h1 : 2 ≤ L) (h2 : L ≤ 9) (ho : one.ok L = true) (ht : two.ok L = true) (hs : lawSame L one two = false) :
    ∃ T : List Blk, told L one two = some T ∧ told L two one = some T ∧ T.length ≤ L + 1 ∧ (∀ x ∈ T, x.1 = 1 ∧ x.2.1 = 0) ∧ behind L one T ≠ behind L two T ∧ resumed L one T ≠ resumed L two T := by
  by_cases e : nextLine L one = nextLine L two
  · have h := chk_two h1 h2 ho ht
    unfold chkTwo at h
    rw [if_neg (by rw [hs]; decide), if_pos e] at h
    simp only [Bool.and_eq_true, decide_eq_true_eq, Bool.not_eq_true', decide_eq_false_iff_not] at h
    obtain ⟨⟨⟨e1, e2⟩, e3⟩, e4⟩ := h
    refine ⟨_, e1, e2, ?_, fun x hx => ?_, e3, e4⟩
    · unfold tellB
      rw [List.length_append, List.length_replicate]
      simp
    · unfold tellB at hx
      rcases List.mem_append.mp hx with z | z
      · rw [List.eq_of_mem_replicate z]
        exact ⟨rfl, rfl⟩
      · rw [List.mem_singleton.mp z]
        exact ⟨rfl, rfl⟩
  · refine ⟨[(1, 0, false, false)], if_pos fun q => e q.symm, if_pos e, by simp, fun x hx => ?_, ?_, ?_⟩
    · rw [List.mem_singleton.mp hx]
      exact ⟨rfl, rfl⟩
    · rw [(chk_one h1 h2 ho).1, (chk_one h1 h2 ht).1]
      intro q
      have q := List.head_eq_of_cons_eq q
      injection q with q1 q2
      exact e (Prod.ext q1 (Int.ofNat.inj q2))
    · rw [(chk_one h1 h2 ho).2, (chk_one h1 h2 ht).2]
      intro q
      have q := List.head_eq_of_cons_eq q
      injection q with q1 q2
      exact e (Prod.ext q1 (Int.ofNat.inj q2))
end K32

set_option Elab.async false
set_option maxRecDepth 100000
namespace K32
open PySem L2
/-! ### the text by places -/
def top (i : Nat) : Stmt := PySem.Challenge.pw_pressalike_k32_whole_standings_parted.main.body.getD i (.Pass ⟨0, 0, 0, 0⟩)
abbrev sBadInit : Stmt := inClass (top 3) 0
abbrev sStandings : Stmt := top 6
abbrev sIsNumber : Stmt := top 7
abbrev sChecked : Stmt := top 8
abbrev sNextLine : Stmt := top 10
abbrev sParting : Stmt := top 11
abbrev sPInit : Stmt := inClass (top 13) 0
abbrev sResume : Stmt := inClass (top 13) 1
abbrev sStay : Stmt := inClass (top 13) 2
abbrev sGoOver : Stmt := inClass (top 13) 3
abbrev sLine : Stmt := inClass (top 13) 4
abbrev sBegin : Stmt := inClass (top 13) 5
abbrev sBlock : Stmt := inClass (top 13) 6
abbrev sFinish : Stmt := inClass (top 13) 11
abbrev sBag : Stmt := top 15
abbrev sDraw : Stmt := top 16
abbrev sNumber : Stmt := top 17
abbrev sLines : Stmt := top 18
abbrev sCut : Stmt := top 19
abbrev sPages : Stmt := top 20
abbrev sLawSds : Stmt := top 22
abbrev sLead : Stmt := top 23
abbrev sBlk : Stmt := top 24
abbrev sLength : Stmt := top 25
abbrev sOdd : Stmt := top 26
abbrev sRefused : Stmt := top 27
abbrev sBehind : Stmt := top 28
abbrev sResumed : Stmt := top 29
abbrev sIsBlk : Stmt := top 30
abbrev sRight : Stmt := top 31
abbrev sLaw : Stmt := top 32
/-! ### where each def stands -/
def gat (x : Str) : PySem.W.Frag → Addr := fun K => He.fAd K (x, none)
def mat (C m : Str) : PySem.W.Frag → Addr := fun K => He.fAd K (C, some m)
def dfn (at_ : PySem.W.Frag → Addr) (x q : Str) (st : Stmt) : He5.DefA := ⟨at_, x, q, defArgs st, defBody st, defScope st, [], []⟩
def dg (x : Str) (st : Stmt) : He5.DefA := dfn (gat x) x x st
def dm (m q : Str) (st : Stmt) : He5.DefA := dfn (mat "Page" m) m q st
def dBadInit : He5.DefA := dfn (mat "BadStanding" "__init__") "__init__" "BadStanding.__init__" sBadInit
def dResume : He5.DefA := dfn (fun K => He5.wf K (He.ga K "Page") "staticmethod" "resumed") "resumed" "Page.resumed" sResume
def dBlock : He5.DefA := ⟨mat "Page" "block", "block", "Page.block", defArgs sBlock, defBody sBlock, defScope sBlock, [], [("space", .int 0), ("kept", .bl false), ("page", .bl false)]⟩
def defs : List He5.DefA := [dBadInit, dg "standings" sStandings, dg "is_number" sIsNumber, dg "checked_standing" sChecked, dg "next_line" sNextLine, dg "parting_blocks" sParting,
  dm "__init__" "Page.__init__" sPInit, dResume, dm "stay" "Page.stay" sStay, dm "go_over" "Page.go_over" sGoOver, dm "line" "Page.line" sLine, dm "begin" "Page.begin" sBegin, dBlock, dm "finish" "Page.finish" sFinish,
  dg "_law_bag" sBag, dg "_law_draw" sDraw, dg "_law_number" sNumber, dg "_law_lines" sLines, dg "_law_cut" sCut, dg "_law_pages" sPages, dg "_law_standings" sLawSds, dg "_law_lead" sLead, dg "_law_block" sBlk,
  dg "_law_length" sLength, dg "_law_odd" sOdd, dg "_law_refused" sRefused, dg "_law_behind" sBehind, dg "_law_resumed" sResumed, dg "_law_is_block" sIsBlk, dg "_law_right" sRight, dg "law" sLaw]
def gnames : List Str := ["PressError", "BadStanding", "TOP", "standings", "is_number", "checked_standing", "next_line", "parting_blocks", "Page", "_law_bag", "_law_draw", "_law_number", "_law_lines", "_law_cut", "_law_pages",
  "_law_standings", "_law_lead", "_law_block", "_law_length", "_law_odd", "_law_refused", "_law_behind", "_law_resumed", "_law_is_block", "_law_right", "law"]
def fnames : List Str := ["range", "sorted", "isinstance", "int", "bool", "tuple", "len", "str", "abs", "enumerate", "list", "all", "max", "min"]
def pattrs : List Str := ["length", "put_lines", "loose", "high", "is_barred", "unknown"]
def pmeths : List Str := ["stay", "go_over", "line", "begin", "block", "finish"]
def facts : List He.Fa := gnames.map .glo ++ fnames.map .free ++ pattrs.map (.noat "Page") ++ pmeths.map (.meth "Page") ++ [.cls "Page", .mkr "Page", .noat "BadStanding" "standing", .exm "BadStanding" "BadStanding" true]
end K32

set_option Elab.async false
set_option maxRecDepth 100000
set_option maxHeartbeats 4000000
namespace K32
open PySem L2
/-! ### further facts of the written part, each a Bool -/
/-- an own class of errors at C, as the maker of its instances wants it -/
def oexB (K : PySem.W.Frag) (C : Addr) : Bool := (match K.lookup C with
    | some ⟨.type ty, _, .cls ⟨_, _, .ref C' :: bm, _, _, true, _, _, _, _, false⟩, ⟨[_, _, _, _, some (.builtin n), _]⟩⟩ => decide (ty = "type") && (decide (C' = C) && (decide (n = "ValueError.__new__") && PySem.HandSPX.refsVE bm))
    | _ => false) && (He.eqO (PySem.W.findIn K (.ref C) "__setattr__") (some (some (.builtin "object.__setattr__"))) && (decide (PySem.W.subIn K (.ref C) (.type "BaseException") = some true) && (decide (PySem.W.typeIn K (.ref C) = some (.type "type")) && PySem.W.keepIn K (.ref C))))
theorem oexB_ok {K : PySem.W.Frag} {C : Addr} (h : oexB K C = true) : OexC K C := by
  obtain ⟨h0, h⟩ := He.ba h
  obtain ⟨h1, h⟩ := He.ba h
  obtain ⟨h2, h⟩ := He.ba h
  obtain ⟨h3, h4⟩ := He.ba h
  refine ⟨?_, He.eqO_ok h1, of_decide_eq_true h2, of_decide_eq_true h3, h4⟩
  split at h0
  · rename_i ty dd nm bs C' bm N q sn sb ab col k0 k1 k2 k3 n k5 e
    obtain ⟨e1, h0⟩ := He.ba h0
    obtain ⟨e2, h0⟩ := He.ba h0
    obtain ⟨e3, e4⟩ := He.ba h0
    have e1 := of_decide_eq_true e1
    have e2 := of_decide_eq_true e2
    have e3 := of_decide_eq_true e3
    subst e1 e2 e3
    exact ⟨nm, q, N, bs, bm, sn, sb, ab, col, dd, k0, k1, k2, k3, k5, e, e4⟩
  · cases h0
/-- a class whose attributes are read as usual -/
def readB (K : PySem.W.Frag) (C : Addr) : Bool := PySem.W.readsIn K C (.type "type") && He.eqO (PySem.W.specialIn K (.ref C) "__getattribute__") (some (some (.builtin "type.__getattribute__")))
def veB (K : PySem.W.Frag) (C : Addr) : Bool := match PySem.W.findCls K (.ref C) (.type "type") "__init__" with
  | some (.val (.builtin n)) => decide (n = "ValueError.__init__")
  | _ => false
theorem veB_ok {K : PySem.W.Frag} {C : Addr} (h : veB K C = true) : PySem.W.findCls K (.ref C) (.type "type") "__init__" = some (.val (.builtin "ValueError.__init__")) := by
  unfold veB at h
  split at h
  · rename_i n e
    rw [e, of_decide_eq_true h]
  · cases h
def more (K : PySem.W.Frag) : Bool := oexB K (He.ga K "BadStanding") && (L2.xfB K (He.ga K "BadStanding") && ((He.Fa.meth "BadStanding" "__init__").ok K && (readB K (He.ga K "PressError") && (veB K (He.ga K "PressError") &&
  (readB K (He.ga K "Page") && (He5.wrapB K (He.ga K "Page") "staticmethod" "staticmethod.__get__" "resumed" && (PySem.W.fnIn K (He5.wf K (He.ga K "Page") "staticmethod" "resumed") && He.tupB K "TOP" [.str "top", .int 0, .int 0])))))))
/-! ### the head's hook -/
structure Says (h : Heap) (K : PySem.W.Frag) : Prop where
  a : He5.SaysA facts defs K
  more : more K = true
  hd : PySem.W.codeHdIn K (He.cT K ("law", none)).1 (He.cT K ("law", none)).2 = true
  out : K.lookup (He.cT K ("law", none)).2 = none
  empty : h.get? (He.cT K ("law", none)).2 = some { cls := .none, data := .fields #[] }
def part (g : Addr → Option Obj) : PySem.W.Frag := He.frT g (He5.asA g 7)
def obs (g : Addr → Option Obj) : He.AlD × Bool := (He5.obsA facts defs (part g), more (part g) && He.tabsB g [("law", none)] (part g))
theorem says_of {h : Heap} (e : obs h.get? = (He5.valA defs, true)) : Says h (part h.get?) := by
  have e1 : He5.obsA facts defs (part h.get?) = He5.valA defs := (Prod.mk.inj e).1
  obtain ⟨m, t⟩ := He.ba (Prod.mk.inj e).2
  obtain ⟨t1, t2⟩ := He.ba (List.all_eq_true.mp t ("law", none) List.mem_cons_self)
  cases q : h.get? (He.cT (part h.get?) ("law", none)).2 with
  | none =>
    rw [q] at t2
    cases t2
  | some o =>
    rw [q] at t2
    exact ⟨e1, m, t1, He.frT_none q t2, by rw [q, He.emptyTab_eq t2]⟩
def hook : PySem.W.Hook where
  α := He.AlD × Bool
  obs := fun s => obs s.heap.get?
  val := fun _ => (He5.valA defs, true)
  says := fun _ h => ∃ K : PySem.W.Frag, K.In h ∧ Says h K
  of := fun _ _ e => ⟨_, He.frT_in, says_of e⟩
  keeps := fun _ _ _ ⟨K, hK, c⟩ k => ⟨K, PySem.W.Frag.In.keeps hK k, c.a, c.more, c.hd, c.out, k _ _ c.empty⟩
abbrev R : PySem.W.OpenRow := PySem.W.OpenLaw.row PySem.Challenge.rw_pressalike_k32_whole_standings_parted
def look (s : PySem.W.SharedT) : He.AlD × Bool := obs (HandSHeadRun.getT s)
theorem look_eq (s : PySem.W.SharedT) : look s = hook.obs s.abs := by
  have e : HandSHeadRun.getT s = s.abs.heap.get? := funext (HandSHeadRun.getT_eq s)
  unfold look
  rw [e]
  rfl
abbrev qv : Program := PySem.W.view R.prog [32]
def loose : List Str := ["_wall", "PressError", "BadStanding", "TOP", "standings", "is_number", "checked_standing", "next_line", "parting_blocks", "Page", "_law_bag", "_law_draw", "_law_number", "_law_lines", "_law_cut", "_law_pages",
  "_law_standing", "_law_standings", "_law_lead", "_law_block", "_law_length", "_law_odd", "_law_refused", "_law_behind", "_law_resumed", "_law_is_block", "_law_right"]
end K32

set_option Elab.async false
set_option maxRecDepth 100000
set_option maxHeartbeats 0
namespace K32
open PySem L2
theorem run (w : World) : HandSHeadRun.RunEq R qv hook look 9000 loose w := by
  intro os
  kernel_rfl
end K32

set_option Elab.async false
set_option linter.all false
set_option maxRecDepth 100000
set_option maxHeartbeats 4000000
namespace PyProof.Rows.G
open PySem PySem.W
theorem tupKeyC_of3 {h : Heap} {shape : Nat → Bool} {a : Addr} {o : Obj} {xs : Array Value} {n : Nat} {l : List (Int ⊕ List Nat)} (ho : h.get? a = some o) (hc : o.cls = .type "tuple") (hd : o.data = .seq xs n)
    (hi : tupItems shape 0 xs.toList = some l) : tupKeyC h shape (.ref a) = some l := by
  have e1 : isTupObj h (.ref a) = true := by simp [isTupObj, ho, hc]
  unfold tupKeyC
  rw [if_pos e1]
  unfold tupKey
  simp only [ho, hd]
  exact hi
end PyProof.Rows.G
namespace K32
open PySem PySem.Spec PyProof.Rows L2
section
variable {X : Cx}
/-! ### x in t, t a tuple of data -/
def rInT (K : PySem.W.Frag) : R2 := fun x y H Q => ∃ d ds, Dp K H x d ∧ Dp K H y (.tuple ds) ∧ SeqAt.shaped d = true ∧ SeqAt.shaped (.tuple ds) = true ∧ Q (.bl (ds.any fun z => PyData.eqv z d)) H
theorem op_inT (hu : X.A.units + 65 < cLine) : OpR X (compareOp .In) (rInT X.K) := by
  intro pins s σ H x y v u Q I rx ry h
  obtain ⟨d, ds, hd, he, sd, se, q⟩ := h
  obtain ⟨as, r1⟩ := Dp.reads I d x v hd rx
  obtain ⟨bs, r2⟩ := Dp.reads I (.tuple ds) y u he ry
  exact SeqAt.in_tuple_reads r2 r1 (SeqAt.canLay_of_shaped se) (SeqAt.canLay_of_shaped sd) (room_in_shaped sd hu) ⟨.bl _, H, I, rfl, q⟩
/-! ### xs[::c], c one or minus one -/
theorem pick_one (items : Array Value) : slicePick items none none (some 1) = items := by
  unfold slicePick
  have e : sliceBounds none none (some 1) items.size = (0, (items.size : Int), 1) := rfl
  rw [e]
  show ((sliceRange 0 (items.size : Int) 1).filterMap (items[·]?)).toArray = _
  have e2 : sliceRange 0 (items.size : Int) 1 = List.range items.size := by
    have q := sliceRange_one 0 items.size
    rw [Nat.sub_zero] at q
    have q' : sliceRange 0 (items.size : Int) 1 = (List.range items.size).map (0 + ·) := q
    rw [q']
    have z : ((0 + ·) : Nat → Nat) = id := funext fun k => Nat.zero_add k
    rw [z, List.map_id]
  rw [e2, PySem.W.krv_all]
def tStepL (K : PySem.W.Frag) (te ts : TE) : TE := fun σ H Q => te σ H fun x H1 => ∃ a, x = .ref a ∧ tPart ts σ H1 fun o H2 => ∃ (c : Int) (xs : List V), o = some c ∧ (c = 1 ∨ c = -1) ∧ SqL K H2 a xs ∧ ∀ p, H2 p = none → Q (.ref p) (upd H2 p (.lst (if c = 1 then xs else xs.reverse)))
theorem pe_stepL {e st : Expr} {te ts : TE} {p3 pos : Pos} (he : PE X e te) (hs : PE X st ts)
    (ht : ∀ a b, subscripted (.Slice none none (some st) p3) false (.ref a) (.ref b) = operate [.ref a, .ref b] (getItem (.ref a) (.ref b)) := by intro _ _; with_unfolding_all rfl) : PE X (.Subscript e (.Slice none none (some st) p3) pos) (tStepL X.K te ts) := by
  refine ⟨fun pins s σ H Q I h => ?_⟩
  refine Subscript_ (thn (he.run pins s σ H _ I h) fun v s1 ⟨x, H1, I1, r1, q1⟩ => ?_)
  obtain ⟨a, ex, q1⟩ := q1
  subst ex
  cases r1
  refine wpAny_Slice (thn (po_none.run pins s1 σ H1 (fun o H2 => o = none ∧ H2 = H1) I1 ⟨rfl, rfl⟩) fun vl s2 ⟨l, H2, I2, pl, el, e2⟩ => ?_)
  subst el e2
  refine thn (po_none.run pins s2 σ H2 (fun o H3 => o = none ∧ H3 = H2) I2 ⟨rfl, rfl⟩) fun vu s3 ⟨u, H3, I3, pu, eu, e3⟩ => ?_
  subst eu e3
  have hst : PO X (some st) (tPart ts) := po_some hs
  refine thn (hst.run pins s3 σ H3 _ I3 q1) fun vs s4 ⟨o, H4, I4, ps, c, xs, eo, hc, hx, q⟩ => ?_
  subst eo
  have I5 : Inv X pins σ H4 { s4 with heap := s4.heap.push { cls := .type "slice", data := .fields #[vl, vu, vs] } } := I4.kept (t' := s4.toks) fun b ob q => Heap.get?_push_of_some _ q
  obtain ⟨its, r, hl, hz⟩ := I5.list hx
  have hlen := r.length
  show wpAny (model X.prog X.w) X.A (subscriptTail e (.Slice none none (some st) p3) (.ref a) (.ref s4.heap.objs.size)) (EP X pins σ Q) X.xe { s4 with heap := s4.heap.push { cls := .type "slice", data := .fields #[vl, vu, vs] } }
  refine tail_any (ops := [.ref a, .ref s4.heap.objs.size]) hl.isList.typeIs (PySem.slot_list_getitem.lookup) ?_ (ht _ _)
  refine wpAny_getItem_list_slice hl.isList (Heap.IsSliceOf.new _ vl vu vs) pl pu ps ?_ ?_ (by rw [List.size_toArray]; omega)
  · rcases hc with rfl | rfl <;> decide
  have q' := q ((s4.heap.push { cls := .type "slice", data := .fields #[vl, vu, vs] }).objs.size) (I5.hok.fresh (Nat.le_refl _))
  rcases hc with rfl | rfl
  · rw [pick_one]
    rw [if_pos rfl] at q'
    exact ⟨.ref _, _, I5.laid (t' := s4.toks) (o := .lst xs) (fun b ob q => Heap.get?_push_of_some _ q) (Nat.le_refl _) ⟨hz, _, 0, r, Heap.get?_push_size _ rfl⟩, rfl, q'⟩
  · rw [PySem.W.krv_pick]
    rw [if_neg (by decide)] at q'
    exact ⟨.ref _, _, I5.laid (t' := s4.toks) (o := .lst xs.reverse) (fun b ob q => Heap.get?_push_of_some _ q) (Nat.le_refl _) ⟨by rw [List.length_reverse]; exact hz, _, 0, r.reverse, Heap.get?_push_size _ rfl⟩, rfl, q'⟩
/-! ### sorted(xs), xs a list of tuples (text, int, int): some arrangement -/
def sh3 : Nat → Bool := fun i => i == 0
def rSorted3 (K : PySem.W.Frag) : List V → Hp → VK → Prop := fun vs H Q => ∃ (a : Addr) (xs : List V), vs = [V.ref a] ∧ SqL K H a xs ∧ (∀ x ∈ xs, ∃ t z i j, x = V.ref t ∧ SqT K H t [.str z, .int i, .int j]) ∧ ∀ ys p, ys.Perm xs → H p = none → Q (.ref p) (upd H p (.lst ys))
theorem tups_of {pins : List (Addr × Obj)} {σ : L2.St} {H : Hp} {s : Shared} (I : Inv X pins σ H s) : ∀ {xs : List V} {us : List Value}, Vals xs us → (∀ x ∈ xs, ∃ t z i j, x = V.ref t ∧ SqT X.K H t [.str z, .int i, .int j]) →
    (∃ fs, PyProof.Rows.TupsOf s.heap sh3 us fs) ∧ ∀ v ∈ us, ∃ l, PyProof.Rows.G.tupKeyC s.heap sh3 v = some l
  | _, _, .nil, _ => ⟨⟨[], .nil⟩, fun v hv => by cases hv⟩
  | _, _, .cons (a := x) (b := u) r rs, h => by
    obtain ⟨⟨fs, h1⟩, h2⟩ := tups_of I rs fun y hy => h y (List.mem_cons_of_mem _ hy)
    obtain ⟨t, z, i, j, e, ht⟩ := h x List.mem_cons_self
    subst e
    obtain rfl : u = Value.ref t := r
    obtain ⟨its, rv, ⟨o, ho, hc, n, hd⟩, _⟩ := I.tuple ht
    cases rv with
    | cons r1 rv =>
      cases rv with
      | cons r2 rv =>
        cases rv with
        | cons r3 rv =>
          cases rv
          obtain ⟨t1, rfl⟩ := r1
          obtain ⟨t2, rfl⟩ := r2
          obtain ⟨t3, rfl⟩ := r3
          refine ⟨⟨Value.str z t1 :: fs, .cons ⟨t, o, _, n, rfl, ho, hc, hd, rfl, fun e => absurd e (by decide), fun _ => ⟨z, t1, rfl⟩⟩ h1⟩, fun v hv => ?_⟩
          rcases List.mem_cons.mp hv with e | hv
          · subst e
            exact ⟨[Sum.inr z.cps.toList, Sum.inl i, Sum.inl j], PyProof.Rows.G.tupKeyC_of3 ho hc hd rfl⟩
          · exact h2 v hv
theorem cr_sorted3 : CallR X (.builtin "sorted") (rSorted3 X.K) := by
  intro pins s σ H vs us Q I r h
  obtain ⟨a, xs, rfl, hs, hx, q⟩ := h
  obtain ⟨its, rv, hl, hz⟩ := I.list hs
  rw [Vals.ref1 r]
  obtain ⟨e1, e2⟩ := bkV_refs rv fun x m => by
    obtain ⟨t, _, _, _, e, _⟩ := hx x m
    exact ⟨t, e⟩
  obtain ⟨⟨fs, ht⟩, hk⟩ := tups_of I rv hx
  refine PyProof.Rows.G.sorted_tups (shape := sh3) (vs := its) (fs := fs) hl.isList ht hk (by rw [← rv.length]; exact hz) fun st' h1 _ _ => ?_
  have hpl : ((arrOf st').map (·.2)).toList.Perm its := by
    have z := (Array.perm_iff_toList_perm.mp h1).map (·.2)
    rw [pairsOf_toList, List.map_snd_zip (Nat.le_refl _)] at z
    rw [Array.toList_map]
    exact z
  obtain ⟨ep, he'⟩ := PyProof.Rows.sortedAll_at s.heap its ((arrOf st').map (·.2))
  have h3 : ∀ u ∈ ((arrOf st').map (·.2)).toList, ∃ a, u = Value.ref a := fun u hu => e2 u (hpl.mem_iff.mp hu)
  have hp : (((arrOf st').map (·.2)).toList.map bkV).Perm xs := by
    rw [e1]
    exact hpl.map bkV
  have hlen : (((arrOf st').map (·.2)).toList.map bkV).length ≤ sizeLine := by
    rw [hp.length_eq]
    exact hz
  exact ⟨.ref _, upd H (s.heap.objs.size + 1) (.lst (((arrOf st').map (·.2)).toList.map bkV)), I.laid (t' := s.toks) (fun _ _ => PyProof.Rows.sortedAll_old) (Nat.le_succ _) ⟨hlen, ((arrOf st').map (·.2)).toList, ep, bkV_vals h3, he'⟩, rfl, q _ _ hp (I.hok.fresh (Nat.le_succ _))⟩
end
end K32

set_option Elab.async false
set_option linter.all false
set_option maxRecDepth 100000
set_option maxHeartbeats 4000000
/-! an f-string of None, ints, texts, tuples of these and of such tuples, lists of these: some bounded text, whatever is under way -/
namespace PySem
open PySem.Spec PyProof.Rows
section
variable {prog : Program} {w : World}
/-- within a text, x is shown by some text of at most B signs -/
def Shows (prog : Program) (w : World) (h₀ : Heap) (d B : Nat) (x : Value) : Prop :=
  ∀ (b : Nat), b + B ≤ sizeLine → ∀ (A : Around) (E : Value → Shared → Prop) (s : Shared) (Q : Str → Shared → Prop), (∀ a o, h₀.get? a = some o → s.heap.get? a = some o) → A.units + d < cLine →
    (∀ (t : Str) (tk : Nat), t.length ≤ B → Q t { s with toks := tk }) → wpAny (model prog w) A (pyReprUnder b x) Q E s
theorem Shows.of {h₀ : Heap} {d B : Nat} {x : Value} {t : Str} (h : ReprIs prog w x t) (ht : t.length ≤ B) : Shows prog w h₀ d B x := fun b hb A E s Q _ _ hq => h b (by omega) A E s Q fun tk => hq t tk ht
theorem Shows.mono {h₀ : Heap} {d B B' : Nat} {x : Value} (h : Shows prog w h₀ d B x) (hB : B ≤ B') : Shows prog w h₀ d B' x := fun b hb A E s Q hk hu hq => h b (by omega) A E s Q hk hu fun t tk ht => hq t tk (Nat.le_trans ht hB)
theorem fold_shows {A : Around} {E : Value → Shared → Prop} {h₀ : Heap} {d B : Nat} (hu : A.units + d < cLine) : ∀ (l : List Value) (acc : Array Str) (n : Nat) (s : Shared) (Q : (Array Str × Nat) → Shared → Prop), (∀ x ∈ l, Shows prog w h₀ d B x) → n + l.length * (B + 2) ≤ sizeLine →
    (∀ a o, h₀.get? a = some o → s.heap.get? a = some o) → (∀ (ts : List Str) (tk : Nat), ts.length = l.length → piled ts ≤ l.length * (B + 2) → Q ⟨acc ++ ts.toArray, n + piled ts⟩ { s with toks := tk }) →
    wpAny (model prog w) A (forIn l (⟨acc, n⟩ : (Array Str × Nat)) tupBody) Q E s
  | [], acc, n, s, Q, _, _, _, h => by
    have h0 := h [] s.toks rfl (Nat.zero_le _)
    simp only [List.forIn_nil]
    exact wpAny_pure (by simpa [piled] using h0)
  | x :: l, acc, n, s, Q, hs, hn, hk, h => by
    have hn' : n + (l.length * (B + 2) + (B + 2)) ≤ sizeLine := by
      have e : (x :: l).length * (B + 2) = l.length * (B + 2) + (B + 2) := by rw [List.length_cons, Nat.add_mul, Nat.one_mul]
      rw [e] at hn
      exact hn
    rw [List.forIn_cons]
    refine wpAny_bind (wpAny_bind (hs x List.mem_cons_self (n + 1) (by omega) _ _ _ _ hk hu fun t tk ht => wpAny_pure ?_))
    refine fold_shows hu l (acc.push t) (n + (t.length + 2)) _ Q (fun y hy => hs y (List.mem_cons_of_mem _ hy)) (by omega) hk fun ts tk' hl hp => ?_
    have h1 := h (t :: ts) tk' (by simp [hl]) (by
      rw [piled_cons, List.length_cons, Nat.add_mul, Nat.one_mul]
      omega)
    have e : n + piled (t :: ts) = n + (t.length + 2) + piled ts := by rw [piled_cons]; omega
    rw [e] at h1
    simpa using h1
theorem rest_shows {A : Around} {E : Value → Shared → Prop} {h₀ : Heap} {d B b : Nat} {a : Addr} {o : Obj} {items : Array Value} {n : Nat} {s : Shared} {Q : Fin → Shared → Prop} (hu : A.units + d < cLine) (ha : s.heap.get? a = some o) (hdt : o.data = .seq items n) (hk : ∀ a o, h₀.get? a = some o → s.heap.get? a = some o)
    (hs : ∀ x ∈ items.toList, Shows prog w h₀ d B x) (hz : b + (items.size * (B + 2) + 7) ≤ sizeLine) (h : ∀ (t : Str) u tk, t.length ≤ items.size * (B + 2) + 7 → Q (.done (.ret (.str t u))) { s with toks := tk }) :
    wpAny (model prog w) A (tupleReprRest b (.ref a)) Q E s := by
  unfold tupleReprRest Builtin.Tuple.tupleItemsOf
  refine wpAny_bind (wpAny_bind (wpAny_seqItems ha hdt (wpAny_pure ?_)))
  rw [← Array.forIn_toList]
  have el : items.toList.length = items.size := by simp
  refine wpAny_bind (fold_shows hu _ _ _ _ _ hs (by rw [el]; omega) hk fun ts tk hl hp => ?_)
  rw [el] at hl hp
  have ht := fmt_text ts
  refine wpAny_bind (wpAny_mkStr (wpAny_pure ?_) ?_)
  · have h1 := h (tupleText ts) tk (tk + 1) (by omega)
    simpa [tupleText, hl] using h1
  · have h1 : (tupleText ts).length ≤ sizeLine := by omega
    simpa [tupleText, hl] using h1
theorem at_shows {A : Around} {E : Value → Shared → Prop} {h₀ : Heap} {d B b : Nat} {a : Addr} {o : Obj} {items : Array Value} {n : Nat} {s : Shared} {Q : Fin → Shared → Prop} (hu : A.units + d < cLine) (ha : s.heap.get? a = some o) (hdt : o.data = .seq items n) (hk : ∀ a o, h₀.get? a = some o → s.heap.get? a = some o)
    (hs : ∀ x ∈ items.toList, Shows prog w h₀ d B x) (hz : b + (items.size * (B + 2) + 7) ≤ sizeLine) (h : ∀ (t : Str) u tk, t.length ≤ items.size * (B + 2) + 7 → Q (.done (.ret (.str t u))) { s with toks := tk }) :
    wpAny (model prog w) A (Builtin.tupleReprAt b ⟨[.ref a], []⟩) Q E s := by
  rw [tuple_repr_tree]
  refine wpAny_bind (fmt_underWay fun c => ?_)
  cases c with
  | true =>
    refine PySem.W.KFB.if_so rfl ?_
    refine wpAny_bind (wpAny_rule ?_)
    refine wpAny_bind (wpAny_mkStr (wpAny_pure ?_) (by decide +kernel))
    exact h "(...)" _ _ (Nat.le_trans fmt_way (by omega))
  | false =>
    refine PySem.W.KFB.if_not rfl ?_
    exact rest_shows hu ha hdt hk hs hz h
theorem tuple_shows {h₀ : Heap} {d B : Nat} {a : Addr} {o : Obj} {items : Array Value} {n : Nat} (ha : h₀.get? a = some o) (hc : o.cls = .type "tuple") (hdt : o.data = .seq items n) (hs : ∀ x ∈ items.toList, Shows prog w h₀ d B x) : Shows prog w h₀ (d + 1) (items.size * (B + 2) + 7) (.ref a) := by
  intro b hb A E s Q hk hu hq
  refine wpAny_pyReprUnder_ref (by omega) (wpAny_pyReprObjUnder_twin (twin := "tuple.__repr__.under") ⟨o, hk _ _ ha, hc⟩ F.slot_tuple_repr rfl (by omega) ?_)
  refine call_twin_own (F.quiet_tuple_repr_under _) F.entry_tuple_repr_under F.check_tuple_repr_under ⟨o, hk _ _ ha, hc⟩ F.slot_tuple_repr (F.args_tuple_repr_1 _) (wpOwn_of_wpAny ?_)
  refine at_shows (h₀ := h₀) (B := B) ?_ (hk _ _ ha) hdt hk hs hb fun t u tk ht => ?_
  · rw [units_under_tuple_repr_under]
    omega
  · exact ⟨⟨t, u, rfl⟩, t, u, rfl, hq t tk ht⟩
/-- {t}, t a tuple -/
theorem tuple_fmt {A : Around} {E : Value → Shared → Prop} {d B : Nat} {a : Addr} {o : Obj} {items : Array Value} {n : Nat} {s : Shared} {Q : Value → Shared → Prop} (hu : A.units + (d + 4) < cLine) (ha : s.heap.get? a = some o) (hc : o.cls = .type "tuple") (hdt : o.data = .seq items n)
    (hs : ∀ x ∈ items.toList, Shows prog w s.heap d B x) (hz : items.size * (B + 2) + 7 ≤ sizeLine) (h : ∀ (t : Str) (u tk : Tok), t.length ≤ items.size * (B + 2) + 7 → Q (.str t u) { s with toks := tk }) :
    wpAny (model prog w) A (formatField (.ref a) Str.empty) Q E s := by
  refine wpAny_formatField_slot (fun _ _ => nofun) (by omega) ⟨o, ha, hc⟩ F.slot_tuple_format F.slot_tuple_str F.slot_tuple_repr ?_
  refine wpAny_call (codeAny_call_builtin_own (Code.quiet_builtin _ (by decide +kernel)) F.entry_tuple_repr (F.slot_tuple_repr.check _ _ _ _ _ _ _ _ ⟨o, ha, hc⟩ (F.args_tuple_repr_1 _) (wpOwn_of_wpAny ?_)))
  refine at_shows (h₀ := s.heap) (d := d) (B := B) (b := 0) ?_ ha hdt (fun _ _ e => e) hs (by omega) fun t u tk ht => ⟨t, u, rfl, h t u tk ht⟩
  rw [units_under_tuple_repr]
  show A.units + 1 + 1 + 1 + d < cLine
  omega
/-- {l}, l a list of None, ints, bools, texts -/
theorem list_fmt {A : Around} {E : Value → Shared → Prop} {a : Addr} {o : Obj} {items : Array Value} {n : Nat} {ts : List Str} {s : Shared} {Q : Value → Shared → Prop} (hu : A.units + 4 < cLine) (ha : s.heap.get? a = some o) (hc : o.cls = .type "list") (hdt : o.data = .seq items n) (hlen : ts.length = items.size) (hne : items.toList ≠ [])
    (hT : ∀ (i : Nat) (x : Value), items[i]? = some x → ∃ t, ts[i]? = some t ∧ ReprIs prog w x t) (hz : (listText ts).length ≤ sizeLine)
    (h : ∀ (t : Str) (u tk : Tok) h', t.length ≤ (listText ts).length + 5 → (∀ b o, s.heap.get? b = some o → h'.get? b = some o) → Q (.str t u) { s with heap := h', toks := tk }) :
    wpAny (model prog w) A (formatField (.ref a) Str.empty) Q E s := by
  refine wpAny_formatField_slot (fun _ _ => nofun) (by omega) ⟨o, ha, hc⟩ F.slot_list_format F.slot_list_str F.slot_list_repr.toG ?_
  refine wpAny_call (codeAny_call_builtin F.slot_list_repr.plain F.entry_list_repr (F.slot_list_repr.check _ _ _ _ _ _ _ _ ⟨o, ha, hc⟩ (F.args_list_repr_1 _) ?_))
  show wpAny _ _ (Builtin.listReprAt 0 ⟨[.ref a], []⟩) _ _ _
  unfold Builtin.listReprAt
  refine wpAny_bind (wpAny_of_eq (a := (Value.ref a, [])) rfl ?_)
  refine wpAny_bind (wpAny_listItems ha hdt ?_)
  have he : items.isEmpty = false := by
    cases q : items.isEmpty with
    | false => rfl
    | true =>
      rw [Array.isEmpty_iff.mp q] at hne
      exact absurd rfl hne
  dsimp only
  rw [he, if_neg Bool.false_ne_true]
  refine wpAny_bind (wpAny_stack_any fun st => ?_)
  split
  · refine wpAny_bind (wpAny_rule ?_)
    refine wpAny_bind (wpAny_mkStr (wpAny_pure ?_) (by decide +kernel))
    refine ⟨_, _, rfl, h _ _ _ s.heap ?_ fun _ _ e => e⟩
    exact Nat.le_trans (by decide +kernel : (Str.ofString "[...]").length ≤ 5) (Nat.le_add_left _ _)
  · refine wpAny_bind (m := newList []) (wpAny_newObj_type ?_)
    refine wpAny_pure ⟨F.quiet_list_repr_loop _, ?_⟩
    refine codeAny_list_repr_start (P := s.heap.objs.size) (Nat.ne_of_lt (Heap.lt_size ha)) hlen hT (Heap.get?_push_of_some _ ha) hdt (Heap.get?_push_size _ rfl) (fun h' u tk hk => ?_) (by omega)
    exact ⟨_, _, rfl, h _ _ _ h' (Nat.le_add_right _ _) fun b o e => hk b o (Nat.ne_of_lt (Heap.lt_size e)) (Heap.get?_push_of_some _ e)⟩
end
end PySem
namespace K32
open PySem PySem.Spec PyProof.Rows L2
/-! ### what is shown -/
inductive Flat : V → Prop where
  | non : Flat .non
  | bl (b : Bool) : Flat (.bl b)
  | int {i : Int} (h : i.natAbs.log2 < 1920) : Flat (.int i)
  | str {x : Str} (h : x.length ≤ 100) (hc : ∀ c ∈ x.cps.toList, c < 16 ^ 8) : Flat (.str x)
inductive Fm (K : PySem.W.Frag) (H : Hp) : V → Prop where
  | flat {v : V} (h : Flat v) : Fm K H v
  | tup {a : Addr} {xs : List V} (ht : SqT K H a xs) (hl : xs.length ≤ 10) (h : ∀ x ∈ xs, Flat x) : Fm K H (.ref a)
  | tup2 {a : Addr} {xs : List V} (ht : SqT K H a xs) (hl : xs.length ≤ 10) (h : ∀ x ∈ xs, Flat x ∨ ∃ b ys, x = .ref b ∧ SqT K H b ys ∧ ys.length ≤ 10 ∧ ∀ y ∈ ys, Flat y) : Fm K H (.ref a)
  | lst {a : Addr} {xs : List V} (hs : SqL K H a xs) (h0 : xs ≠ []) (hl : xs.length ≤ 10) (h : ∀ x ∈ xs, Flat x) : Fm K H (.ref a)
theorem flat_is {prog : Program} {w : World} {v : V} {u : Value} (h : Flat v) (r : RelV v u) : ∃ t : Str, ReprIs prog w u t ∧ t.length ≤ 2000 := by
  cases h with
  | non =>
    cases (show u = Value.none from r)
    exact ⟨"None", ReprIs.none, by decide +kernel⟩
  | bl b =>
    cases (show u = Value.bool b from r)
    refine ⟨_, ReprIs.bool b, ?_⟩
    cases b <;> decide +kernel
  | int hi =>
    obtain ⟨t, rfl⟩ := r
    exact ⟨_, ReprIs.int t hi, Nat.le_trans (int_text_len_1921 hi) (by decide)⟩
  | @str x hl hc =>
    obtain ⟨t, rfl⟩ := r
    have h1 := StrLaws.reprText_len x hc
    exact ⟨_, ReprIs.str x t (by rw [sizeLine_eq]; omega), by omega⟩
theorem flats_are {prog : Program} {w : World} : ∀ {xs : List V} {us : List Value}, Vals xs us → (∀ x ∈ xs, Flat x) → ∃ ts : List Str, ts.length = us.length ∧ (∀ t ∈ ts, t.length ≤ 2000) ∧ ∀ (i : Nat) (u : Value), us[i]? = some u → ∃ t, ts[i]? = some t ∧ ReprIs prog w u t
  | _, _, .nil, _ => ⟨[], rfl, (fun t ht => absurd ht List.not_mem_nil), (fun i u h => by simp at h)⟩
  | _, _, .cons r rs, h => by
    obtain ⟨t, h1, h2⟩ := flat_is (prog := prog) (w := w) (h _ List.mem_cons_self) r
    obtain ⟨ts, h3, h4, h5⟩ := flats_are (prog := prog) (w := w) rs fun x hx => h x (List.mem_cons_of_mem _ hx)
    refine ⟨t :: ts, by simp [h3], fun z hz => ?_, fun i u hi => ?_⟩
    · rcases List.mem_cons.mp hz with e | hz
      · rw [e]
        exact h2
      · exact h4 z hz
    · cases i with
      | zero =>
        simp at hi
        subst hi
        exact ⟨t, rfl, h1⟩
      | succ i => exact h5 i u (by simpa using hi)
theorem list_text_le : ∀ ts : List Str, (listText ts).length ≤ piled ts + 2
  | [] => by decide +kernel
  | t :: r => by
    have h := textFrom_length_pos r 1 (("[" : Str) ++ (if (0 : Nat) > 0 then ", " else "" : String) ++ t) (Nat.succ_pos 0)
    have e : ((("[" : Str) ++ (if (0 : Nat) > 0 then ", " else "" : String) ++ t)).length = 1 + t.length := by
      rw [strLen_append, strLen_append]; rfl
    have hX : (listText (t :: r)).length = (textFrom 0 "[" (t :: r)).length + 1 := by
      show (textFrom 0 "[" (t :: r) ++ "]").length = _
      rw [strLen_append]; rfl
    have hY : textFrom 0 "[" (t :: r) = textFrom 1 (("[" : Str) ++ (if (0 : Nat) > 0 then ", " else "" : String) ++ t) r := rfl
    rw [hX, hY, h, e, piled_cons]
    omega
theorem piled_small : ∀ ts : List Str, (∀ t ∈ ts, t.length ≤ 2000) → piled ts ≤ ts.length * 2002
  | [], _ => Nat.zero_le _
  | t :: ts, h => by
    have h1 := h t List.mem_cons_self
    have h2 := piled_small ts fun z hz => h z (List.mem_cons_of_mem _ hz)
    rw [piled_cons, List.length_cons, Nat.add_mul]
    omega
section
variable {X : Cx}
def tFmtD (K : PySem.W.Frag) (te : TE) : TE := fun σ H Q => te σ H fun x H1 => Fm K H1 x ∧ ∀ m : Str, m.length ≤ 1000000 → Q (.str m) H1
theorem pe_fmtD {e : Expr} {te : TE} {pos : Pos} {k : Nat} (hr : Room k X.A) (he : PE X e te) : PE X (.FormattedValue e (-1) none pos) (tFmtD X.K te) := by
  refine ⟨fun pins s σ H Q I h => ?_⟩
  refine wpAny_FormattedValue_plain (thn (he.run pins s σ H _ I h) fun v s1 hv => ?_)
  obtain ⟨x, H1, I1, r1, hf, q⟩ := hv
  have hu := hr.units
  have sl := sizeLine_eq
  have one : ∀ {y : V} {u : Value} {h₀ : Heap}, Flat y → RelV y u → Shows X.prog X.w h₀ 1 2000 u := fun {y u h₀} fl r => by
    obtain ⟨t, h1, h2⟩ := flat_is (prog := X.prog) (w := X.w) fl r
    exact Shows.of h1 h2
  have all1 : ∀ {xs : List V} {us : List Value} {h₀ : Heap}, Vals xs us → (∀ x ∈ xs, Flat x) → ∀ u ∈ us, Shows X.prog X.w h₀ 1 2000 u := fun {xs us h₀} r fl u hu => by
    obtain ⟨i, hi, e⟩ := List.mem_iff_getElem.mp hu
    have hx : i < xs.length := by rw [r.length]; exact hi
    obtain ⟨u', h1, h2⟩ := r.get (i := i) (x := xs[i]) (List.getElem?_eq_getElem hx)
    rw [List.getElem?_eq_getElem hi, e] at h1
    cases h1
    exact one (fl _ (List.getElem_mem hx)) h2
  cases hf with
  | flat fl =>
    cases fl with
    | non =>
      cases (show v = Value.none from r1)
      exact wpAny_formatField_none ⟨.str "None", H1, I1.tok _, ⟨_, rfl⟩, q _ (by decide +kernel)⟩
    | bl b =>
      cases (show v = Value.bool b from r1)
      refine wpAny_formatField_bool ⟨.str _, H1, I1.tok _, ⟨_, rfl⟩, q _ ?_⟩
      cases b <;> decide +kernel
    | int hi =>
      obtain ⟨t, rfl⟩ := r1
      exact wpAny_formatField_int hi ⟨.str _, H1, I1.tok _, ⟨_, rfl⟩, q _ (Nat.le_trans (int_text_len_1921 hi) (by decide))⟩
    | @str x hl hc =>
      obtain ⟨t, rfl⟩ := r1
      exact wpAny_formatField_str ⟨.str x, H1, I1, ⟨t, rfl⟩, q x (by omega)⟩ ⟨.str x, H1, I1.tok _, ⟨_, rfl⟩, q x (by omega)⟩ (by omega)
  | @tup a xs ht hl fl =>
    cases r1
    obtain ⟨its, rv, ⟨o, ho, hc, n, hd⟩, _⟩ := I1.tuple ht
    have e : its.toArray.size = xs.length := by rw [List.size_toArray, rv.length]
    refine tuple_fmt (d := 1) (B := 2000) (by omega) ho hc hd (fun u hm => all1 rv fl u (by simpa using hm)) (by omega) fun m u tk hm => ⟨.str m, H1, I1.tok _, ⟨u, rfl⟩, q m (by omega)⟩
  | @tup2 a xs ht hl fl =>
    cases r1
    obtain ⟨its, rv, ⟨o, ho, hc, n, hd⟩, _⟩ := I1.tuple ht
    have e : its.toArray.size = xs.length := by rw [List.size_toArray, rv.length]
    refine tuple_fmt (d := 2) (B := 20027) (by omega) ho hc hd (fun u hm => ?_) (by omega) fun m u tk hm => ⟨.str m, H1, I1.tok _, ⟨u, rfl⟩, q m (by omega)⟩
    have hm' : u ∈ its := by simpa using hm
    obtain ⟨i, hi, e1⟩ := List.mem_iff_getElem.mp hm'
    have hx : i < xs.length := by rw [rv.length]; exact hi
    obtain ⟨u', h1, h2⟩ := rv.get (i := i) (x := xs[i]) (List.getElem?_eq_getElem hx)
    rw [List.getElem?_eq_getElem hi, e1] at h1
    cases h1
    rcases fl _ (List.getElem_mem hx) with fl | ⟨b, ys, ey, hb, hyl, fy⟩
    · intro b hb A E s Q hk hu hq
      exact (one fl h2).mono (B' := 20027) (by decide) b hb A E s Q hk (by omega) hq
    · rw [ey] at h2
      cases h2
      obtain ⟨jts, rw', ⟨o2, ho2, hc2, n2, hd2⟩, _⟩ := I1.tuple hb
      have e2 : jts.toArray.size = ys.length := by rw [List.size_toArray, rw'.length]
      exact (tuple_shows (d := 1) (B := 2000) ho2 hc2 hd2 fun u hm => all1 rw' fy u (by simpa using hm)).mono (by omega)
  | @lst a xs hs h0 hl fl =>
    cases r1
    obtain ⟨its, rv, ⟨o, n, ho, hc, _, hd⟩, _⟩ := I1.list hs
    obtain ⟨ts, h1, h2, h3⟩ := flats_are (prog := X.prog) (w := X.w) rv fl
    have e := rv.length
    have hp := piled_small ts h2
    have hL : (listText ts).length ≤ 100000 := by
      have z := list_text_le ts
      omega
    refine list_fmt (ts := ts) (by omega) ho hc hd (by simpa using h1) (by
      intro z
      have z' : its = [] := by simpa using z
      rw [z'] at e
      exact h0 (List.length_eq_zero_iff.mp (by simpa using e))) (fun i x hi => h3 i x (by simpa using hi)) (by omega) fun m u tk h' hm hk => ⟨.str m, H1, I1.kept (t' := tk) hk, ⟨u, rfl⟩, q m (by omega)⟩
end
end K32

set_option Elab.async false
set_option linter.all false
set_option maxRecDepth 100000
set_option maxHeartbeats 4000000
namespace K32
open PySem PySem.Spec PyProof.Rows L2
section
variable {X : Cx} {e : Expr} {es : List Expr} {ta : TA} {p1 p2 pos : Pos}
/-- B.__init__(self, ..), B an own class of errors whose __init__ is ValueError's -/
theorem pe_binit {pl : Sem Bool} {B : Str} {C0 : Addr} (hg : Gl X B) (hm : X.mg B = some (.ref C0)) (rd : PySem.W.readsIn X.K C0 (.type "type") = true) (ga : PySem.W.specialIn X.K (.ref C0) "__getattribute__" = some (some (.builtin "type.__getattribute__")))
    (vV : PySem.W.findCls X.K (.ref C0) (.type "type") "__init__" = some (.val (.builtin "ValueError.__init__"))) (ha : PA X (e :: es) ta) (hdb : (B == ("__debug__" : Str)) = false := by decide)
    (hc : eval (.Call (.Attribute (.Name B p1) "__init__" p2) (e :: es) [] pos) X.env = (do
      let ov ← eval (.Name B p1) X.env
      standAt p2.atName
      let (f, first) ← holding [ov] (getMethod ov "__init__" pl)
      callWith pos f first (backTo pos (starEach (e :: es) X.env)) (backToKw pos (keywordEach [] X.env))) := by rfl)
    (he : starEach (e :: es) X.env = (false, eval e X.env) :: starEach es X.env := by rfl) (hpl : (backTo pos (starEach es X.env)).any (·.1) = false := by rfl) :
    PE X (.Call (.Attribute (.Name B p1) "__init__" p2) (e :: es) [] pos) (tVeI X.K ta) := by
  refine ⟨fun pins s σ H Q I h => ?_⟩
  refine PySem.W.methodCall_KW (ld_glob I hg hm ?_ hdb) hc
  refine PySem.W.method_cls I.kIn ga (PySem.W.cls_value I.kIn rd vV (by decide +kernel) ?_)
  show wpAny _ _ (callWith pos (Value.builtin "ValueError.__init__") [] (backTo pos (starEach (e :: es) X.env)) []) _ _ _
  refine PyProof.Rows.callWith_method1 (thn (ha.run pos pins _ σ H _ (I.tok _) h) fun us s1 ⟨vs, H1, I1, r1, a, C, ws, ev, hl, T, ea, q⟩ => ?_) he hpl
  subst ev
  cases r1 with
  | @cons _ u0 _ ur ra rw' =>
    obtain rfl : u0 = Value.ref a := ra
    have hlen : ur.length ≤ sizeLine := by
      rw [← Paired.length rw', sizeLine_eq]
      omega
    exact oinit_ok T I1 ea hlen fun s' J => ⟨.non, H1, J, rfl, q⟩
end
end K32

set_option Elab.async false
set_option linter.all false
set_option maxRecDepth 100000
set_option maxHeartbeats 4000000
namespace K32
open PySem PySem.Spec PyProof.Rows L2
section
variable {X : Cx} {CX : CXT} {k n : Nat} {f C p : Addr} {fd : FuncData} {ps ks : List Str} {sp : Sp} {E : XK} {m : Str} {apos pos : Pos} {o e : Expr} {es : List Expr} {kws : List Keyword} {ta : TE} {t tk : TA} {g : List Value → List Value → List Value} {gV : List V → List V → List V} {pl : Sem Bool}
/-! ### C.m(e, ..), m a staticmethod of the class at C -/
structure SMeth (K : PySem.W.Frag) (C p : Addr) (m : Str) (f : Addr) : Prop where
  rd : PySem.W.readsIn K C (.type "type") = true
  ga : PySem.W.specialIn K (.ref C) "__getattribute__" = some (some (.builtin "type.__getattribute__"))
  at_ : PySem.W.findCls K (.ref C) (.type "type") m = some (.get (.builtin "staticmethod.__get__") (.ref p) .none (.ref C))
  rc : ∃ rest, PySem.W.recIn K p "staticmethod" = some (.ref f :: rest)
  kp : PySem.W.keepIn K (.ref f) = true
def tSMeth (C : Addr) (sp : Sp) (E : XK) (ta : TE) (t : TA) : TE := fun σ H Q => ta σ H fun x H1 => x = .ref C ∧ t σ H1 fun vs H2 => sp vs H2 Q E
theorem pe_smeth (he : PE X o ta) (s : SMeth X.K C p m f) (F : FnOk X.prog X.w X.K X.mg X.base CX k f fd ps sp) (hr : Room k X.A) (hb : Binds X.K fd ps []) (hx : Passes CX X E) (ha : PA X (e :: es) t)
    (hst : starEach (e :: es) X.env = (false, eval e X.env) :: starEach es X.env := by rfl) (hpl : (backTo pos (starEach es X.env)).any (·.1) = false := by rfl)
    (ht : eval (.Call (.Attribute o m apos) (e :: es) [] pos) X.env = (do
      let ov ← eval o X.env
      standAt apos.atName
      let (f, first) ← holding [ov] (getMethod ov m pl)
      callWith pos f first (backTo pos (starEach (e :: es) X.env)) (backToKw pos (keywordEach [] X.env))) := by rfl) :
    PE X (.Call (.Attribute o m apos) (e :: es) [] pos) (tSMeth C sp E ta t) := by
  refine ⟨fun pins s1 σ H Q I h => ?_⟩
  refine PySem.W.methodCall_KW (pl := pl) (thn (he.run pins s1 σ H _ I h) fun u s1 ⟨x, H1, I1, rx, ex, q⟩ => ?_) ht
  subst ex
  obtain rfl : u = Value.ref C := rx
  obtain ⟨rest, hrec⟩ := s.rc
  refine PySem.W.method_cls I1.kIn s.ga (PySem.W.cls_bind I1.kIn s.rd s.at_ (wpAny_call (PySem.W.sm_get (s := { s1 with toks := s1.toks + 1 }) I1.kIn hrec (PySem.W.handed_on rfl ?_))))
  have I2 := I1.tok (s1.toks + 1)
  refine PySem.W.callWith_K (h₀ := X.base) I.ok.mod.kin s.kp (thn (ha.run pos pins _ σ H1 _ I2 q) fun us s2 ⟨vs, H2, I3, r, q2⟩ => ⟨I3.kIn, ?_⟩) hst hpl
  exact run_fn F hr hb .nil hx I3 r (by rw [List.append_nil]; exact q2)
/-! ### o.m(e, .., k = v, ..), o an instance -/
def tMethN (C : Addr) (m : Str) (n j : Nat) (sp : Sp) (gV : List V → List V → List V) (E : XK) (ta : TE) (t tk : TA) : TE := fun σ H Q => ta σ H fun x H1 => ∃ a dx fs, x = .ref a ∧ H1 a = some (.ins C dx fs) ∧ fs.lookup m = none ∧
  t σ H1 fun vs H2 => tk σ H2 fun zs H3 => (x :: vs).length = n ∧ zs.length = j ∧ sp (gV (x :: vs) zs) H3 Q E
theorem pe_methN (he : PE X o ta) (c : Cls X.K C) (hm : Meth X.K C m f) (F : FnOk X.prog X.w X.K X.mg X.base CX k f fd ps sp) (hr : Room k X.A) (hb : KBn X.K fd ps n ks g gV) (hx : Passes CX X E) (ha : PA X (e :: es) t) (hkw : PK X kws tk)
    (hall : (backToKw pos (keywordEach kws X.env)).all (·.1.isSome) = true := by rfl) (hks : (backToKw pos (keywordEach kws X.env)).filterMap (·.1) = ks := by rfl)
    (hst : starEach (e :: es) X.env = (false, eval e X.env) :: starEach es X.env := by rfl) (hpl : ((backTo pos (starEach (e :: es) X.env)).any (·.1) || (backToKw pos (keywordEach kws X.env)).any (·.1.isNone)) = false := by rfl)
    (ht : eval (.Call (.Attribute o m apos) (e :: es) kws pos) X.env = (do
      let ov ← eval o X.env
      standAt apos.atName
      let (f, first) ← holding [ov] (getMethod ov m pl)
      callWith pos f first (backTo pos (starEach (e :: es) X.env)) (backToKw pos (keywordEach kws X.env))) := by rfl) :
    PE X (.Call (.Attribute o m apos) (e :: es) kws pos) (tMethN C m n ks.length sp gV E ta t tk) := by
  refine ⟨fun pins s σ H Q I h => ?_⟩
  refine PySem.W.methodCall_KW (pl := pl) (thn (he.run pins s σ H _ I h) fun u s1 ⟨x, H1, I1, rx, a, dx, fs, ex, ea, l, q⟩ => ?_) ht
  subst ex
  obtain rfl : u = Value.ref a := rx
  refine getmeth_ok I1 ea c hm l ?_
  refine PySem.W.callWith_KW (first := [.ref a]) (h₀ := X.base) I.ok.mod.kin hm.kp hall (thn (ha.run pos pins s1 σ H1 _ I1 q) fun us s2 ⟨vs, H2, I2, r, q2⟩ => ?_) hpl hst
  refine thn (hkw.run pos pins s2 σ H2 _ I2 q2) fun ws s3 ⟨zs, H3, I3, rz, l1, l2, q3⟩ => ⟨I3.kIn, ?_⟩
  rw [hks]
  exact run_fnN (us := .ref a :: us) (vs := .ref a :: vs) F hr hb hx I3 (.cons rfl r) rz l1 l2 q3
end
end K32

set_option Elab.async false
set_option linter.all false
set_option maxRecDepth 100000
set_option maxHeartbeats 4000000
namespace K32
open PySem PySem.Spec PyProof.Rows L2
/-! ### what is known behind the top -/
abbrev FnP (K : PySem.W.Frag) (x q : Str) (st : Stmt) (f : Addr) (fd : FuncData) : Prop := FunD K x q (defArgs st) (defBody st) (defScope st) [] [] f fd
/-- a global def keeps its promise -/
structure Ok (P : Program) (w : World) (K : PySem.W.Frag) (mg : Str → Option Value) (base : Heap) (CX : CXT) (k : Nat) (x : Str) (ps : List Str) (sp : Sp) : Prop where
  ex : ∃ f fd, FnOk P w K mg base CX k f fd ps sp ∧ mg x = some (.ref f) ∧ PySem.W.keepIn K (.ref f) = true ∧ Binds K fd ps []
structure Tx (K : PySem.W.Frag) (mg : Str → Option Value) : Prop where
  glo : ∀ x ∈ gnames, mg x = some (.ref (He.ga K x))
  fre : ∀ x ∈ fnames, mg x = none
  def_ : ∀ d ∈ defs, ∃ fd, FunD K d.name d.qual d.params d.body d.scope (d.dvs K) (d.kws K) (d.at_ K) fd
  cls : Cls K (He.ga K "Page")
  noat : ∀ f ∈ pattrs, NoAttr K (He.ga K "Page") f
  meth : ∀ m ∈ pmeths, Meth K (He.ga K "Page") m (He.ma K (He.ga K "Page") m)
  mkr : Mk K (He.ga K "Page") (He.ma K (He.ga K "Page") "__init__")
  res : SMeth K (He.ga K "Page") (He.ma K (He.ga K "Page") "resumed") "resumed" (He5.wf K (He.ga K "Page") "staticmethod" "resumed")
  oex : OexC K (He.ga K "BadStanding")
  xf : XfC K (He.ga K "BadStanding")
  noS : NoAttr K (He.ga K "BadStanding") "standing"
  ini : Meth K (He.ga K "BadStanding") "__init__" (He.ma K (He.ga K "BadStanding") "__init__")
  exm : PySem.W.exmOne K (.ref (He.ga K "BadStanding")) (.ref (He.ga K "BadStanding")) = some true
  prd : PySem.W.readsIn K (He.ga K "PressError") (.type "type") = true
  pga : PySem.W.specialIn K (.ref (He.ga K "PressError")) "__getattribute__" = some (some (.builtin "type.__getattribute__"))
  pve : PySem.W.findCls K (.ref (He.ga K "PressError")) (.type "type") "__init__" = some (.val (.builtin "ValueError.__init__"))
  top : ∀ H : Hp, SqT K H (He.ga K "TOP") [.str "top", .int 0, .int 0]
section
variable {P : Program} {w : World} {K : PySem.W.Frag} {mg : Str → Option Value} {base : Heap}
theorem Tx.fn (T : Tx K mg) {x : Str} {st : Stmt} (hm : dg x st ∈ defs) : ∃ fd, FnP K x x st (He.ga K x) fd := T.def_ (dg x st) hm
/-- a def of the text that lets nothing out -/
theorem ok0 {x q : Str} {st : Stmt} {f : Addr} {fd : FuncData} {N ps : List Str} {k : Nat} {sp : Sp} (F : FnP K x q st f fd) (S : FnScope N ps (defScope st)) (len : ∀ vs H Q E, sp vs H Q E → vs.length = ps.length)
    (h : ∀ (cdv : Value) (A : Around) (outer : List Env) (s : Shared) (H : Hp) (vs : List V) (Q : VK) (E : XK), Room k (A.deeper (envOfC q (defScope st) s.heap.objs.size f cdv)) → sp vs H Q E →
      ∃ t, PSs (cxOf CX0 P w K mg base N q (defScope st) f cdv A outer s H E).nox (defBody st) t ∧ t { nx := fun _ H' => Q .non H', rt := Q } (L2.start N vs) H) : FnOk P w K mg base CX0 (k + 1) f fd ps sp :=
  F.ok S len fun cdv A outer s H vs Q E hr hsp => by
    obtain ⟨t, h1, h2⟩ := h cdv A outer s H vs Q E hr hsp
    exact ⟨t, PSs.nox h1, h2⟩
/-- .. that may raise -/
theorem okX {x q : Str} {st : Stmt} {f : Addr} {fd : FuncData} {N ps : List Str} {k : Nat} {sp : Sp} (F : FnP K x q st f fd) (S : FnScope N ps (defScope st)) (len : ∀ vs H Q E, sp vs H Q E → vs.length = ps.length)
    (h : ∀ (cdv : Value) (A : Around) (outer : List Env) (s : Shared) (H : Hp) (vs : List V) (Q : VK) (E : XK), Room k (A.deeper (envOfC q (defScope st) s.heap.objs.size f cdv)) → sp vs H Q E →
      ∃ t, PSs (cxOf (L2.CX P w) P w K mg base N q (defScope st) f cdv A outer s H E) (defBody st) t ∧ t { nx := fun _ H' => Q .non H', rt := Q } (L2.start N vs) H) : FnOk P w K mg base (L2.CX P w) (k + 1) f fd ps sp := F.ok S len h
theorem Ok.mk' {CX : CXT} {k : Nat} {x : Str} {st : Stmt} {ps : List Str} {sp : Sp} (i : Nat) (T : Tx K mg)
    (h : ∀ fd, FnP K x x st (He.ga K x) fd → FnOk P w K mg base CX k (He.ga K x) fd ps sp)
    (hb : ∀ (kV doc pm : Value) (an : Option Addr) (cdv ct : Value) (us : List Value), us.length = ps.length → bindArgs (PySem.W.fnOf x x (defArgs st) (defBody st) (defScope st) .none kV doc pm an cdv ct) ⟨us, []⟩ = pure (ps.zip us)) (hm : defs[i]? = some (dg x st) := by rfl) (hg : x ∈ gnames := by decide +kernel) : Ok P w K mg base CX k x ps sp := by
  obtain ⟨fd, F⟩ := T.fn (List.mem_of_getElem? hm)
  exact ⟨_, fd, h fd F, T.glo x hg, F.kp, FunD.bindsN F hb⟩
end
/-- f(e, ..), f a global def -/
def tCal (sp : Sp) (E : XK) (t : TA) : TE := fun σ H Q => t σ H fun vs H1 => sp vs H1 Q E
section
variable {X : Cx} {CX : CXT} {k j : Nat} {ps : List Str} {sp : Sp} {E : XK} {x : Str} {e : Expr} {es : List Expr} {t : TA} {p pos : Pos}
theorem pe_ok (O : Ok X.prog X.w X.K X.mg X.base CX k x ps sp) (hr : Room j X.A) (hk : k ≤ j) (hx : Passes CX X E) (ha : PA X (e :: es) t) (hg : Gl X x := by rfl) (hdb : (x == ("__debug__" : Str)) = false := by decide)
    (he : starEach (e :: es) X.env = (false, eval e X.env) :: starEach es X.env := by rfl) (hpl : (backTo pos (starEach es X.env)).any (·.1) = false := by rfl) : PE X (.Call (.Name x p) (e :: es) [] pos) (tCal sp E t) := by
  obtain ⟨f, fd, F, hm, hkp, hb⟩ := O.ex
  refine ⟨fun pins s σ H Q I h => ?_⟩
  refine wpAny_Call_Name_kw (ld_glob I hg hm ?_ hdb)
  refine PySem.W.callWith_K (h₀ := X.base) I.ok.mod.kin hkp (thn (ha.run pos pins s σ H _ I h) fun us s1 ⟨vs, H1, I1, r, q⟩ => ⟨I1.kIn, ?_⟩) he hpl
  exact run_fn F (hr.mono hk) hb .nil hx I1 r (by rw [List.append_nil]; exact q)
theorem passN : Passes (L2.CX X.prog X.w) X E0 := passes_call takes0 fun _ _ _ _ h => h.elim
end
/-! ### short terms -/
section
variable {X : Cx} {e o : Expr} {te to : TE} {pos p apos cpos : Pos}
def tApp (K : PySem.W.Frag) (to te : TE) : TS := tDrop (tBM K "list" rAppend to (tCons te tNil))
/-- o.append(e) -/
theorem ps_app (ho : PE X o to) (he : PE X e te) (hbase : attributeBase o "append" X.env (eval o X.env) = eval o X.env := by rfl)
    (hfew : ((backTo cpos (starEach [e] X.env)).all (fun x => !x.1) && (backToKw cpos (keywordEach [] X.env)).all (fun x => x.1.isSome)
      && decide ([e].length + ([] : List Keyword).length + (if ([] : List Keyword).isEmpty then 0 else 1) < 30)) = true := by rfl)
    (hline : (apos.endLine == cpos.line) = true := by rfl) (hs : starEach [e] X.env = (false, eval e X.env) :: starEach [] X.env := by rfl) (hplain : (backTo cpos (starEach [] X.env)).any (·.1) = false := by rfl) :
    PS X (.Expr (.Call (.Attribute o "append" apos) [e] [] cpos) pos) (tApp X.K to te) :=
  ps_expr (pe_bm PySem.F.plainAttrs_list PySem.F.slot_list_append PySem.F.type_list_append mt_append ho (pa_cons he pa_nil hs) hbase hfew hline hs hplain)
theorem app_at {K : PySem.W.Frag} {H : Hp} {l : Addr} {xs : List V} {y : V} {Q : VK} (h : H l = some (.lst xs)) (hz : xs.length < sizeLine) (q : Q .non (upd H l (.lst (xs ++ [y])))) : rAppend (.ref l) [y] H Q := ⟨l, xs, y, rfl, rfl, h, hz, q⟩
theorem ty_list {K : PySem.W.Frag} {H : Hp} {l : Addr} {xs : List V} (h : H l = some (.lst xs)) : tyV K "list" (.ref l) H := .inl ⟨rfl, xs, .inl (.inl h)⟩
theorem boot_isi : bootBuiltins "isinstance" = some (.builtin "isinstance") := by decide +kernel
theorem boot_sorted' : bootBuiltins "sorted" = some (.builtin "sorted") := by decide +kernel
theorem boot_ty (T : String) (h : bootBuiltins (Str.ofString T) = some (.type T)) : bootBuiltins (Str.ofString T) = some (.type T) := h
end
/-! ### data -/
def wdS : Wd → Str
  | .top => "top"
  | .op => "open"
  | .kp => "kept"
def sdV (s : Sd) : List V := [.str (wdS s.w), .int s.h, .int s.b]
def sdD (s : Sd) : PyData := .tuple [.str (wdS s.w), .int s.h, .int s.b]
def blV (b : Blk) : List V := [.int b.1, .int b.2.1, .bl b.2.2.1, .bl b.2.2.2]
def lnV (l : Ln) : List V := [.int l.1, .bl l.2.1, .bl l.2.2]
def rwV (r : Rw) : List V := [.bl r.1, .int r.2]
/-- v is a tuple of these -/
def TupAt (H : Hp) (xs : List V) (v : V) : Prop := ∃ t, v = .ref t ∧ H t = some (.tup xs)
def SdAt (H : Hp) (v : V) (s : Sd) : Prop := TupAt H (sdV s) v
def BlAt (H : Hp) (v : V) (b : Blk) : Prop := TupAt H (blV b) v
def LnAt (H : Hp) (v : V) (l : Ln) : Prop := TupAt H (lnV l) v
def RwAt (H : Hp) (v : V) (r : Rw) : Prop := TupAt H (rwV r) v
theorem TupAt.ext {H H' : Hp} {xs : List V} {v : V} (h : TupAt H xs v) (e : ∀ b o, H b = some o → H' b = some o) : TupAt H' xs v := by
  obtain ⟨t, h1, h2⟩ := h
  exact ⟨t, h1, e _ _ h2⟩
/-- a list's items, each at its datum -/
theorem Paired.snoc {α β : Type} {R : α → β → Prop} : ∀ {xs : List α} {ys : List β} {x : α} {y : β}, Paired R xs ys → R x y → Paired R (xs ++ [x]) (ys ++ [y])
  | _, _, _, _, .nil, h => .cons h .nil
  | _, _, _, _, .cons a b, h => .cons a (Paired.snoc b h)
theorem Paired.app {α β : Type} {R : α → β → Prop} : ∀ {xs zs : List α} {ys us : List β}, Paired R xs ys → Paired R zs us → Paired R (xs ++ zs) (ys ++ us)
  | _, _, _, _, .nil, h => h
  | _, _, _, _, .cons a b, h => .cons a (Paired.app b h)
theorem Paired.at' {α β : Type} {R : α → β → Prop} : ∀ {xs : List α} {ys : List β} {i : Nat} {y : β}, Paired R xs ys → ys[i]? = some y → ∃ x, xs[i]? = some x ∧ R x y
  | _, _, _, _, .nil, h => by simp at h
  | _, _, 0, _, .cons a b, h => by simp at h; subst h; exact ⟨_, rfl, a⟩
  | _, _, i + 1, _, .cons a b, h => by
    obtain ⟨x, h1, h2⟩ := Paired.at' (i := i) b (by simpa using h)
    exact ⟨x, by simpa using h1, h2⟩
theorem Paired.at1 {α β : Type} {R : α → β → Prop} : ∀ {xs : List α} {ys : List β} {i : Nat} {x : α}, Paired R xs ys → xs[i]? = some x → ∃ y, ys[i]? = some y ∧ R x y
  | _, _, _, _, .nil, h => by simp at h
  | _, _, 0, _, .cons a b, h => by simp at h; subst h; exact ⟨_, rfl, a⟩
  | _, _, i + 1, _, .cons a b, h => by
    obtain ⟨y, h1, h2⟩ := Paired.at1 (i := i) b (by simpa using h)
    exact ⟨y, by simpa using h1, h2⟩
theorem Paired.imp {α β : Type} {R S : α → β → Prop} (f : ∀ x y, R x y → S x y) : ∀ {xs : List α} {ys : List β}, Paired R xs ys → Paired S xs ys
  | _, _, .nil => .nil
  | _, _, .cons a b => .cons (f _ _ a) (Paired.imp f b)
theorem Paired.rep {α β : Type} {R : α → β → Prop} {x : α} {y : β} (h : R x y) : ∀ n : Nat, Paired R (List.replicate n x) (List.replicate n y)
  | 0 => .nil
  | n + 1 => .cons h (Paired.rep h n)
theorem Paired.drop' {α β : Type} {R : α → β → Prop} : ∀ (n : Nat) {xs : List α} {ys : List β}, Paired R xs ys → Paired R (xs.drop n) (ys.drop n)
  | 0, _, _, h => h
  | _ + 1, _, _, .nil => .nil
  | n + 1, _, _, .cons _ b => Paired.drop' n b
/-- all but what stands at p is as it was -/
def SameX (p : Addr) (H H' : Hp) : Prop := ∀ b o, b ≠ p → H b = some o → H' b = some o
theorem Same.upd {H : Hp} {p : Addr} {o : HO} (h : H p = none) : Same H (upd H p o) := fun b u e => by
  rw [upd_ne (ne_of_none e h)]
  exact e
theorem Same.upd' {H H1 : Hp} {p : Addr} {o : HO} (s : Same H H1) (h : H p = none) : Same H (L2.upd H1 p o) := fun b u e => by
  rw [upd_ne (ne_of_none e h)]
  exact s b u e
theorem Same.updN {H H1 : Hp} {p : Addr} {o : HO} (s : Same H H1) (h : H1 p = none) : Same H (L2.upd H1 p o) := s.trans (Same.upd h)
end K32

set_option Elab.async false
set_option linter.all false
set_option maxRecDepth 100000
set_option maxHeartbeats 4000000
namespace K32
open PySem PySem.Spec PyProof.Rows L2
/-! ### is_number, _law_number -/
def isIntV : V → Bool
  | .int _ => true
  | _ => false
/-- a value without parts, its kind's name -/
inductive FlatT : V → String → Prop where
  | non : FlatT .non "NoneType"
  | bl (b : Bool) : FlatT (.bl b) "bool"
  | int (i : Int) : FlatT (.int i) "int"
  | str (z : Str) : FlatT (.str z) "str"
def spNum : Sp := fun vs H Q _ => ∃ v T, vs = [v] ∧ FlatT v T ∧ Q (.bl (isIntV v)) H
theorem FlatT.ty {K : PySem.W.Frag} {H : Hp} {v : V} {T : String} (h : FlatT v T) : TyX K H v (.type T) := by
  cases h with
  | non => exact .base .non
  | bl b => exact .base (.bl b)
  | int i => exact .base (.int i)
  | str z => exact .base (.str z)
theorem scNum : FnScope ["thing"] ["thing"] (defScope sIsNumber) := ⟨rfl, rfl, rfl, by decide +kernel, rfl, by decide +kernel, by decide +kernel⟩
theorem scNumL : FnScope ["_law_thing"] ["_law_thing"] (defScope sNumber) := ⟨rfl, rfl, rfl, by decide +kernel, rfl, by decide +kernel, by decide +kernel⟩
section
variable {P : Program} {w : World} {K : PySem.W.Frag} {mg : Str → Option Value} {base : Heap}
theorem boot_int' : bootBuiltins "int" = some (.type "int") := by decide +kernel
theorem boot_bool' : bootBuiltins "bool" = some (.type "bool") := by decide +kernel
theorem ok_num (T : Tx K mg) : Ok P w K mg base CX0 1 "is_number" ["thing"] spNum := by
  refine Ok.mk' 2 T (st := sIsNumber) (fun fd F => ok0 F scNum (fun vs H Q E h => ?_) fun cdv A outer s H vs Q E hr h => ?_) (fun _ _ _ _ _ _ us hl => match us, hl with | [_], _ => rfl)
  · obtain ⟨v, t, rfl, _⟩ := h
    rfl
  · obtain ⟨v, t, rfl, hv, q⟩ := h
    refine ⟨_, pss_one (ps_ret (pe_and (pe_callB call_isi (by rfl) (T.fre _ (by decide +kernel)) boot_isi (pa_cons (pv 0) (pa_cons (pe_bltn (v := .ty "int") (by rfl) (T.fre _ (by decide +kernel)) boot_int' rfl) pa_nil)))
      (pe_one (pe_not (pe_callB call_isi (by rfl) (T.fre _ (by decide +kernel)) boot_isi (pa_cons (pv 0) (pa_cons (pe_bltn (v := .ty "bool") (by rfl) (T.fre _ (by decide +kernel)) boot_bool' rfl) pa_nil))))))), ?_⟩
    cases hv with
    | non => exact ⟨_, rfl, _, _, _, _, false, rfl, .ty "int", (FlatT.non).ty, kit_ty (by decide +kernel), false, rfl, q⟩
    | int i => exact ⟨_, rfl, _, _, _, _, true, rfl, .ty "int", (FlatT.int i).ty, kit_ty (by decide +kernel), true, rfl, _, rfl, _, _, _, _, false, rfl, .ty "bool", (FlatT.int i).ty, kit_ty (by decide +kernel), false, rfl, q⟩
    | bl b => exact ⟨_, rfl, _, _, _, _, true, rfl, .ty "int", (FlatT.bl b).ty, kit_ty (by decide +kernel), true, rfl, _, rfl, _, _, _, _, true, rfl, .ty "bool", (FlatT.bl b).ty, kit_ty (by decide +kernel), true, rfl, q⟩
    | str z => exact ⟨_, rfl, _, _, _, _, false, rfl, .ty "int", (FlatT.str z).ty, kit_ty (by decide +kernel), false, rfl, q⟩
theorem ok_lnum (T : Tx K mg) : Ok P w K mg base CX0 1 "_law_number" ["_law_thing"] spNum := by
  refine Ok.mk' 16 T (st := sNumber) (fun fd F => ok0 F scNumL (fun vs H Q E h => ?_) fun cdv A outer s H vs Q E hr h => ?_) (fun _ _ _ _ _ _ us hl => match us, hl with | [_], _ => rfl)
  · obtain ⟨v, t, rfl, _⟩ := h
    rfl
  · obtain ⟨v, t, rfl, hv, q⟩ := h
    refine ⟨_, pss_one (ps_ret (pe_and (pe_callB call_isi (by rfl) (T.fre _ (by decide +kernel)) boot_isi (pa_cons (pv 0) (pa_cons (pe_bltn (v := .ty "int") (by rfl) (T.fre _ (by decide +kernel)) boot_int' rfl) pa_nil)))
      (pe_one (pe_not (pe_callB call_isi (by rfl) (T.fre _ (by decide +kernel)) boot_isi (pa_cons (pv 0) (pa_cons (pe_bltn (v := .ty "bool") (by rfl) (T.fre _ (by decide +kernel)) boot_bool' rfl) pa_nil))))))), ?_⟩
    cases hv with
    | non => exact ⟨_, rfl, _, _, _, _, false, rfl, .ty "int", (FlatT.non).ty, kit_ty (by decide +kernel), false, rfl, q⟩
    | int i => exact ⟨_, rfl, _, _, _, _, true, rfl, .ty "int", (FlatT.int i).ty, kit_ty (by decide +kernel), true, rfl, _, rfl, _, _, _, _, false, rfl, .ty "bool", (FlatT.int i).ty, kit_ty (by decide +kernel), false, rfl, q⟩
    | bl b => exact ⟨_, rfl, _, _, _, _, true, rfl, .ty "int", (FlatT.bl b).ty, kit_ty (by decide +kernel), true, rfl, _, rfl, _, _, _, _, true, rfl, .ty "bool", (FlatT.bl b).ty, kit_ty (by decide +kernel), true, rfl, q⟩
    | str z => exact ⟨_, rfl, _, _, _, _, false, rfl, .ty "int", (FlatT.str z).ty, kit_ty (by decide +kernel), false, rfl, q⟩
end
end K32

set_option Elab.async false
set_option linter.all false
set_option maxRecDepth 100000
set_option maxHeartbeats 4000000
namespace K32
open PySem PySem.Spec PyProof.Rows L2
/-! ### standings -/
def SdK (K : PySem.W.Frag) (H : Hp) (v : V) (s : Sd) : Prop := ∃ t, v = .ref t ∧ SqT K H t (sdV s)
theorem SdK.ext {K : PySem.W.Frag} {H H' : Hp} {v : V} {s : Sd} (e : Same H H') (h : SdK K H v s) : SdK K H' v s := by
  obtain ⟨t, h1, h2⟩ := h
  exact ⟨t, h1, Evl.ex_t e h2⟩
theorem SdKs.ext {K : PySem.W.Frag} {H H' : Hp} {vs : List V} {ss : List Sd} (e : Same H H') (h : Paired (SdK K H) vs ss) : Paired (SdK K H') vs ss := Paired.imp (fun _ _ => SdK.ext e) h
/-- an arrangement of the items is one of the data -/
theorem Paired.perm {α β : Type} {R : α → β → Prop} {xs ys : List α} (p : ys.Perm xs) : ∀ {ss : List β}, Paired R xs ss → ∃ ts, Paired R ys ts ∧ ts.Perm ss := by
  induction p with
  | nil =>
    intro ss h
    exact ⟨ss, h, List.Perm.refl _⟩
  | cons a _ ih =>
    intro ss h
    cases h with
    | cons h1 h2 =>
      obtain ⟨ts, h3, h4⟩ := ih h2
      exact ⟨_ :: ts, .cons h1 h3, h4.cons _⟩
  | swap a b l =>
    intro ss h
    cases h with
    | cons h1 h2 =>
      cases h2 with
      | cons h3 h4 => exact ⟨_, .cons h3 (.cons h1 h4), List.Perm.swap _ _ _⟩
  | trans _ _ ih1 ih2 =>
    intro ss h
    obtain ⟨ts, h1, h2⟩ := ih2 h
    obtain ⟨us, h3, h4⟩ := ih1 h1
    exact ⟨us, h3, h4.trans h2⟩
def progTo (L i : Nat) : List Sd := ⟨.top, 0, 0⟩ :: (List.range i).flatMap fun h => progRow L (h + 1)
def keptsTo (L h j : Nat) : List Sd := ((List.range j).filter fun b => decide (h < L) || decide (0 < b)).map fun b => ⟨.kp, h, b⟩
def openAt (L h : Nat) : List Sd := if h < L then [⟨.op, h, 0⟩] else []
theorem progTo_succ (L i : Nat) : progTo L (i + 1) = progTo L i ++ openAt L (i + 1) ++ keptsTo L (i + 1) (i + 1) := by
  unfold progTo
  rw [List.range_succ, List.flatMap_append]
  simp [progRow, openAt, kepts, keptsTo]
theorem keptsTo_pos {L h j : Nat} (c : h < L ∨ 0 < j) : keptsTo L h (j + 1) = keptsTo L h j ++ [⟨.kp, h, j⟩] := by
  unfold keptsTo
  have e : (decide (h < L) || decide (0 < j)) = true := by simpa using c
  rw [List.range_succ, List.filter_append]
  simp [e]
theorem keptsTo_neg {L h j : Nat} (c : ¬ (h < L ∨ 0 < j)) : keptsTo L h (j + 1) = keptsTo L h j := by
  unfold keptsTo
  have e : (decide (h < L) || decide (0 < j)) = false := by simpa using c
  rw [List.range_succ, List.filter_append]
  simp [e]
theorem kepts_len (L h j : Nat) : (keptsTo L h j).length ≤ j := by
  unfold keptsTo
  rw [List.length_map]
  exact Nat.le_trans (List.length_filter_le _ _) (by simp)
theorem progTo_len (L : Nat) : ∀ i : Nat, i ≤ 9 → (progTo L i).length ≤ 1 + 11 * i
  | 0, _ => by simp [progTo]
  | i + 1, h => by
    have h1 := progTo_len L i (by omega)
    have h2 := kepts_len L (i + 1) (i + 1)
    have h3 : (openAt L (i + 1)).length ≤ 1 := by unfold openAt; split <;> simp
    rw [progTo_succ, List.length_append, List.length_append]
    omega
def spSds (K : PySem.W.Frag) : Sp := fun vs H Q _ => ∃ L : Nat, vs = [.int L] ∧ L ≤ 9 ∧ ∀ (H' : Hp) (p : Addr) (ys : List V) (ss : List Sd), Same H H' → H' p = some (.lst ys) → Paired (SdK K H') ys ss → ss.Perm (progSds L) → Q (.ref p) H'
theorem scSds : FnScope ["length", "found", "high", "back"] ["length"] (defScope sStandings) := ⟨rfl, rfl, rfl, by decide +kernel, rfl, by decide +kernel, by decide +kernel⟩
/-- one tuple more behind the list -/
theorem app_sd {K : PySem.W.Frag} {H0 H : Hp} {p t : Addr} {vs : List V} {ss : List Sd} {s : Sd} (hp0 : H0 p = none) (e : Same H0 H) (hp : H p = some (.lst vs)) (hs : Paired (SdK K H) vs ss) (ht : H t = none) :
    Same H0 (upd (upd H t (.tup (sdV s))) p (.lst (vs ++ [.ref t]))) ∧ (upd (upd H t (.tup (sdV s))) p (.lst (vs ++ [.ref t]))) p = some (.lst (vs ++ [.ref t])) ∧ Paired (SdK K (upd (upd H t (.tup (sdV s))) p (.lst (vs ++ [.ref t])))) (vs ++ [.ref t]) (ss ++ [s]) := by
  have npt : t ≠ p := fun z => by
    rw [z, hp] at ht
    cases ht
  have k : ∀ a xs, H a = some (.tup xs) → upd (upd H t (.tup (sdV s))) p (.lst (vs ++ [.ref t])) a = some (.tup xs) := fun a xs h => by
    rw [upd_ne (fun z => by rw [z, hp] at h; cases h), upd_ne (ne_of_none h ht)]
    exact h
  have kf : ∀ a o xs, H a = some (.frz o (.tup xs)) → upd (upd H t (.tup (sdV s))) p (.lst (vs ++ [.ref t])) a = some (.frz o (.tup xs)) := fun a o xs h => by
    rw [upd_ne (fun z => by rw [z, hp] at h; cases h), upd_ne (ne_of_none h ht)]
    exact h
  refine ⟨Same.upd' (e.trans (Same.upd ht)) hp0, upd_same, Paired.snoc (Paired.imp (fun v s' h => ?_) hs) ⟨t, rfl, .inl (.inl ?_)⟩⟩
  · obtain ⟨a, h1, h2⟩ := h
    refine ⟨a, h1, ?_⟩
    rcases h2 with (h2 | ⟨o, h2⟩) | h2
    · exact .inl (.inl (k _ _ h2))
    · exact .inl (.inr ⟨o, kf _ _ _ h2⟩)
    · exact .inr h2
  · rw [upd_ne npt, upd_same]
section
variable {P : Program} {w : World} {K : PySem.W.Frag} {mg : Str → Option Value} {base : Heap}
theorem ok_sds (T : Tx K mg) : Ok P w K mg base CX0 1 "standings" ["length"] (spSds K) := by
  refine Ok.mk' 1 T (st := sStandings) (fun fd F => ok0 F scSds (fun vs H Q E h => ?_) fun cdv A outer s H vs Q E hr h => ?_) (fun _ _ _ _ _ _ us hl => match us, hl with | [_], _ => rfl)
  · obtain ⟨L, rfl, _⟩ := h
    rfl
  · obtain ⟨L, rfl, hL, q⟩ := h
    refine ⟨_, pss_cons (ps_set (i := 1) scSds.nd rfl (.inl rfl) (pe_lst (pa_cons (pe_glob (v := .ref (He.ga K "TOP")) (by rfl) (T.glo "TOP" (by decide +kernel)) rfl) pa_nil)))
      (pss_cons (ps_for PassesOwn.never rfl (pi_range2 (by rfl) (T.fre _ (by decide +kernel)) (pa_cons pe_int (pa_cons (pe_op op_add (pv 0) pe_int) pa_nil))) (pg_name (i := 2) scSds.nd rfl (.inl rfl))
        (Evl.pss_cut (ps_if (pt_cmpR op_lt (pv 2) (pv 0) (nomark _)) (pss_one (ps_app (pv 1) (pe_tup (pa_cons pe_str (pa_cons (pv 2) (pa_cons pe_int pa_nil)))))) pss_nil)
        (pss_one (ps_for PassesOwn.never rfl (pi_range1 (by rfl) (T.fre _ (by decide +kernel)) (pa_cons (pv 2) pa_nil)) (pg_name (i := 3) scSds.nd rfl (.inl rfl))
          (pss_one (ps_if (PW.pt (pw_or (pt_cmpR op_lt (pv 2) (pv 0) (nomark _)) (pw_or1 (pt_cmpR op_gt (pv 3) pe_int (nomark _)))))
            (pss_one (ps_app (pv 1) (pe_tup (pa_cons pe_str (pa_cons (pv 2) (pa_cons (pv 3) pa_nil)))))) pss_nil))))))
      (pss_one (ps_ret (pe_callB cr_sorted3 (by rfl) (T.fre _ (by decide +kernel)) boot_sorted' (pa_cons (pv 1) pa_nil))))), ?_⟩
    refine ⟨(by show 1 ≤ sizeLine; decide), fun p hp => ?_⟩
    -- for high in range(1, length + 1)
    refine ⟨_, rfl, _, _, rfl, rfl, 1, (L : Int) + 1, rfl, ⟨by decide, by decide, by omega, by omega⟩, for_range (lo := 1) (fun i σ H1 => ∃ (vh vb : Option V) (vs : List V), σ = [some (.int L), some (.ref p), vh, vb] ∧ Same H H1 ∧ H1 p = some (.lst vs) ∧ Paired (SdK K H1) vs (progTo L i)) ?_ ?_ ?_⟩
    · exact ⟨none, none, _, rfl, Same.upd hp, upd_same, .cons ⟨_, rfl, T.top _⟩ .nil⟩
    · rintro i σ H1 hi ⟨vh, vb, vs, rfl, e1, hl1, hs1⟩
      have hi : i < L := by omega
      refine ⟨fun σ' H' => σ' = [some (.int L), some (.ref p), some (.int (1 + i)), vb] ∧ Same H H' ∧ ∃ vs, H' p = some (.lst vs) ∧ Paired (SdK K H') vs (progTo L i ++ openAt L (i + 1)), ?_, ?_⟩
      · -- if high < length
        refine ⟨_, rfl, _, rfl, _, _, rfl, rfl, _, rfl, ite2 (fun c => ?_) (fun c => ?_)⟩
        · have c := of_decide_eq_true c
          refine ⟨_, rfl, ty_list hl1, _, rfl, (by show 3 ≤ sizeLine; decide), fun t ht => ?_⟩
          have ntp : p ≠ t := ne_of_none hl1 ht
          have eL : vs.length < sizeLine := by
            have h1 := progTo_len L i (by omega)
            rw [Paired.length hs1]
            exact Evl.sz_lt (by omega)
          have key := app_sd (s := ⟨.op, i + 1, 0⟩) hp e1 hl1 hs1 ht
          have es : sdV ⟨.op, i + 1, 0⟩ = [.str "open", .int (1 + (i : Int)), .int 0] := by
            have e : (((i + 1 : Nat)) : Int) = 1 + (i : Int) := by omega
            show [V.str "open", .int ((i + 1 : Nat) : Int), .int ((0 : Nat) : Int)] = _
            rw [e] <;> rfl
          rw [es] at key
          have eo : openAt L (i + 1) = [⟨.op, i + 1, 0⟩] := if_pos (by omega)
          rw [← eo] at key
          exact ⟨p, vs, _, rfl, rfl, (by rw [upd_ne ntp]; exact hl1), eL, rfl, key.1, _, key.2.1, key.2.2⟩
        · have c : ¬ (1 + (i : Int) < L) := fun z => c (decide_eq_true z)
          have eo : openAt L (i + 1) = [] := if_neg (by omega)
          refine ⟨rfl, e1, vs, hl1, ?_⟩
          rw [eo, List.append_nil]
          exact hs1
      · -- for back in range(high)
        rintro σ' H' ⟨rfl, e2, vs2, hl2, hs2⟩
        have en : ((1 : Int) + i).toNat = i + 1 := by omega
        refine ⟨_, rfl, 1 + (i : Int), rfl, by omega, by omega, for_range (lo := 0) (fun j σ H3 => ∃ (vb : Option V) (vs : List V), σ = [some (.int L), some (.ref p), some (.int (1 + i)), vb] ∧ Same H H3 ∧ H3 p = some (.lst vs) ∧ Paired (SdK K H3) vs (progTo L i ++ openAt L (i + 1) ++ keptsTo L (i + 1) j)) ?_ ?_ ?_⟩
        · refine ⟨vb, vs2, rfl, e2, hl2, ?_⟩
          have e0 : keptsTo L (i + 1) 0 = [] := rfl
          rw [e0, List.append_nil]
          exact hs2
        · rintro j σ H3 hj ⟨vb3, vs3, rfl, e3, hl3, hs3⟩
          rw [en] at hj
          have more : (1 + (i : Int) < L ∨ (0 : Int) < 0 + j) → ∀ t, H3 t = none → vs3.length < sizeLine ∧ p ≠ t ∧ ∃ (vb : Option V) (vs : List V), [some (V.int L), some (.ref p), some (.int (1 + i)), some (.int (0 + j))] = [some (V.int L), some (.ref p), some (.int (1 + i)), vb] ∧
              Same H (upd (upd H3 t (.tup [.str "kept", .int (1 + i), .int (0 + j)])) p (.lst (vs3 ++ [.ref t]))) ∧ (upd (upd H3 t (.tup [.str "kept", .int (1 + i), .int (0 + j)])) p (.lst (vs3 ++ [.ref t]))) p = some (.lst vs) ∧
              Paired (SdK K (upd (upd H3 t (.tup [.str "kept", .int (1 + i), .int (0 + j)])) p (.lst (vs3 ++ [.ref t])))) vs (progTo L i ++ openAt L (i + 1) ++ keptsTo L (i + 1) (j + 1)) := fun c t ht => by
            have h1 := progTo_len L i (by omega)
            have h2 := kepts_len L (i + 1) j
            have h3 : (openAt L (i + 1)).length ≤ 1 := by unfold openAt; split <;> simp
            have key := app_sd (s := ⟨.kp, i + 1, j⟩) hp e3 hl3 hs3 ht
            have es : sdV ⟨.kp, i + 1, j⟩ = [.str "kept", .int (1 + (i : Int)), .int (0 + (j : Int))] := by
              have e : (((i + 1 : Nat)) : Int) = 1 + (i : Int) := by omega
              have e' : (j : Int) = 0 + (j : Int) := by omega
              show [V.str "kept", .int ((i + 1 : Nat) : Int), .int (j : Int)] = _
              rw [e, ← e'] <;> rfl
            rw [es] at key
            refine ⟨?_, ne_of_none hl3 ht, _, _, rfl, key.1, key.2.1, ?_⟩
            · rw [Paired.length hs3, List.length_append, List.length_append]
              exact Evl.sz_lt (by omega)
            · rw [keptsTo_pos (by omega), ← List.append_assoc]
              exact key.2.2
          have app : (1 + (i : Int) < L ∨ (0 : Int) < 0 + j) → ∀ t, H3 t = none → rAppend (.ref p) [.ref t] (upd H3 t (.tup [.str "kept", .int (1 + i), .int (0 + j)])) fun _ H4 => ∃ (vb : Option V) (vs : List V), [some (V.int L), some (.ref p), some (.int (1 + i)), some (.int (0 + j))] = [some (V.int L), some (.ref p), some (.int (1 + i)), vb] ∧
              Same H H4 ∧ H4 p = some (.lst vs) ∧ Paired (SdK K H4) vs (progTo L i ++ openAt L (i + 1) ++ keptsTo L (i + 1) (j + 1)) := fun c t ht => by
            obtain ⟨z1, z2, z3⟩ := more c t ht
            exact ⟨p, vs3, _, rfl, rfl, (by rw [upd_ne z2]; exact hl3), z1, z3⟩
          refine ⟨_, rfl, _, rfl, _, _, rfl, rfl, _, rfl, ite2 (fun c => ?_) (fun c => ?_)⟩
          · have c := of_decide_eq_true c
            exact iteT ⟨_, rfl, ty_list hl3, _, rfl, _, rfl, (by show 3 ≤ sizeLine; decide), fun t ht => app (.inl c) t ht⟩
          · have c : ¬ (1 + (i : Int) < L) := fun z => c (decide_eq_true z)
            refine ⟨_, rfl, _, _, rfl, rfl, _, rfl, ite2 (fun c2 => ?_) (fun c2 => ?_)⟩
            · have c2 := of_decide_eq_true c2
              exact ⟨_, rfl, ty_list hl3, _, rfl, _, rfl, (by show 3 ≤ sizeLine; decide), fun t ht => app (.inr c2) t ht⟩
            · have c2 : ¬ ((0 : Int) < 0 + j) := fun z => c2 (decide_eq_true z)
              refine ⟨_, vs3, rfl, e3, hl3, ?_⟩
              rw [keptsTo_neg (by omega)]
              exact hs3
        · rintro σ H3 ⟨vb3, vs3, rfl, e3, hl3, hs3⟩
          rw [en] at hs3
          refine ⟨_, vb3, vs3, rfl, e3, hl3, ?_⟩
          rw [progTo_succ]
          exact hs3
    · -- return sorted(found)
      rintro σ H1 ⟨vh, vb, vs, rfl, e1, hl1, hs1⟩
      have en : ((L : Int) + 1 - 1).toNat = L := by omega
      rw [en] at hs1
      refine ⟨_, rfl, p, vs, rfl, .inl (.inl hl1), fun x hx => ?_, fun ys r hp' hr' => ?_⟩
      · obtain ⟨i, hi, e⟩ := List.mem_iff_getElem.mp hx
        obtain ⟨s', _, t, h1, h2⟩ := Paired.at1 hs1 (show vs[i]? = some x by rw [List.getElem?_eq_getElem hi, e])
        exact ⟨t, _, _, _, h1, h2⟩
      · obtain ⟨ts, h1, h2⟩ := Paired.perm hp' hs1
        exact q _ r ys ts (e1.trans (Same.upd hr')) upd_same (SdKs.ext (Same.upd hr') h1) h2
end
end K32

set_option Elab.async false
set_option linter.all false
set_option maxRecDepth 100000
set_option maxHeartbeats 4000000
namespace K32
open PySem PySem.Spec PyProof.Rows L2
/-! ### standings as data -/
theorem dp_sd {K : PySem.W.Frag} {H : Hp} {v : V} {s : Sd} (h : SdK K H v s) : Dp K H v (sdD s) := by
  obtain ⟨t, rfl, h⟩ := h
  exact .tup h (.cons (.str _) (.cons (.int _) (.cons (.int _) .nil)))
theorem dps_sd {K : PySem.W.Frag} {H : Hp} : ∀ {vs : List V} {ss : List Sd}, Paired (SdK K H) vs ss → DpAll K H vs (ss.map sdD)
  | _, _, .nil => .nil
  | _, _, .cons a b => .cons (dp_sd a) (dps_sd b)
theorem wdS_ok (w : Wd) : PyData.strOk (wdS w) = true := by cases w <;> decide +kernel
theorem sdD_lay (s : Sd) : (sdD s).canLay0 = true := by simp [sdD, PyData.canLay0, PyData.canLayAll0, wdS_ok]
theorem sdD_depth (s : Sd) : (sdD s).depth = 1 := by simp [sdD, PyData.depth, PyData.depthAll]
theorem sdDs_lay : ∀ ss : List Sd, PyData.canLayAll0 (ss.map sdD) = true
  | [] => by simp [PyData.canLayAll0]
  | s :: ss => by simp [PyData.canLayAll0, sdD_lay s, sdDs_lay ss]
theorem sdDs_depth : ∀ ss : List Sd, PyData.depthAll (ss.map sdD) ≤ 1
  | [] => by simp [PyData.depthAll]
  | s :: ss => by
    have h1 := sdDs_depth ss
    have h2 := sdD_depth s
    simp only [List.map_cons, PyData.depthAll]
    omega
theorem shaped_of {d : PyData} (h1 : d.canLay0 = true) (h2 : d.depth ≤ 64) : SeqAt.shaped d = true := by
  show (d.canLay0 && decide (d.depth ≤ 64)) = true
  rw [Bool.and_eq_true]
  exact ⟨h1, decide_eq_true h2⟩
theorem sdD_shaped (s : Sd) : SeqAt.shaped (sdD s) = true := shaped_of (sdD_lay s) (by rw [sdD_depth]; decide)
theorem sdDs_shaped (ss : List Sd) : SeqAt.shaped (.list (ss.map sdD)) = true := shaped_of (by simp only [PyData.canLay0]; exact sdDs_lay ss) (by
  have h := sdDs_depth ss
  simp only [PyData.depth]
  omega)
theorem sdT_shaped (ss : List Sd) : SeqAt.shaped (.tuple (ss.map sdD)) = true := shaped_of (by simp only [PyData.canLay0]; exact sdDs_lay ss) (by
  have h := sdDs_depth ss
  simp only [PyData.depth]
  omega)
theorem wdS_inj {a b : Wd} (h : wdS a = wdS b) : a = b := by
  cases a <;> cases b <;> first | rfl | exact absurd h (by decide +kernel)
theorem sdD_eqvT (s : Sd) (w : Str) (h b : Int) : PyData.eqv (sdD s) (.tuple [.str w, .int h, .int b]) = decide (wdS s.w = w ∧ (s.h : Int) = h ∧ (s.b : Int) = b) := by
  have e : PyData.eqv (sdD s) (.tuple [.str w, .int h, .int b]) = ((wdS s.w == w) && (((s.h : Int) == h) && (((s.b : Int) == b) && true))) := by simp only [sdD, PyData.eqv, PyData.eqvAll]
  rw [e, Bool.and_true]
  by_cases h1 : wdS s.w = w
  · by_cases h2 : (s.h : Int) = h
    · by_cases h3 : (s.b : Int) = b
      · rw [decide_eq_true ⟨h1, h2, h3⟩, beq_iff_eq.mpr h1, beq_iff_eq.mpr h2, beq_iff_eq.mpr h3] <;> rfl
      · rw [decide_eq_false fun z => h3 z.2.2, beq_eq_false_iff_ne.mpr h3, Bool.and_false, Bool.and_false]
    · rw [decide_eq_false fun z => h2 z.2.1, beq_eq_false_iff_ne.mpr h2, Bool.false_and, Bool.and_false]
  · rw [decide_eq_false fun z => h1 z.1, beq_eq_false_iff_ne.mpr h1, Bool.false_and]
theorem sdD_eqv (s t : Sd) : PyData.eqv (sdD s) (sdD t) = decide (s = t) := by
  have e := sdD_eqvT s (wdS t.w) t.h t.b
  rw [show sdD t = .tuple [.str (wdS t.w), .int t.h, .int t.b] from rfl, e]
  by_cases h : s = t
  · rw [decide_eq_true h, decide_eq_true]
    rw [h]
    exact ⟨rfl, rfl, rfl⟩
  · rw [decide_eq_false h, decide_eq_false]
    rintro ⟨h1, h2, h3⟩
    refine h ?_
    cases s
    cases t
    have h1 := wdS_inj h1
    dsimp only at h1 h2 h3
    rw [h1, show _ = _ from Int.ofNat.inj h2, show _ = _ from Int.ofNat.inj h3]
theorem any_sd (ss : List Sd) (t : Sd) : ((ss.map sdD).any fun z => PyData.eqv z (sdD t)) = decide (t ∈ ss) := by
  rw [Bool.eq_iff_iff, List.any_eq_true, decide_eq_true_eq]
  constructor
  · rintro ⟨z, hz, e⟩
    obtain ⟨s, h1, rfl⟩ := List.mem_map.mp hz
    rw [sdD_eqv, decide_eq_true_eq] at e
    rw [← e]
    exact h1
  · intro h
    exact ⟨_, List.mem_map.mpr ⟨t, h, rfl⟩, by rw [sdD_eqv]; exact decide_eq_true rfl⟩
/-! ### what is refused -/
def okT (L : Nat) (w : Str) (h b : Int) : Bool := decide (w = "top" ∧ h = 0 ∧ b = 0) || decide (w = "open" ∧ 1 ≤ h ∧ h < L ∧ b = 0) || decide (w = "kept" ∧ 1 ≤ h ∧ h ≤ L ∧ 0 ≤ b ∧ b < h ∧ (h < L ∨ 0 < b))
def badD (L : Nat) : PyData → Bool
  | .tuple [.str w, .int h, .int b] => !okT L w h b
  | _ => true
theorem okT_iff {L : Nat} {w : Str} {h b : Int} : okT L w h b = true ↔ ∃ s : Sd, s.ok L = true ∧ wdS s.w = w ∧ (s.h : Int) = h ∧ (s.b : Int) = b := by
  unfold okT
  rw [Bool.or_eq_true, Bool.or_eq_true, decide_eq_true_eq, decide_eq_true_eq, decide_eq_true_eq]
  constructor
  · rintro ((⟨rfl, rfl, rfl⟩ | ⟨rfl, h1, h2, rfl⟩) | ⟨rfl, h1, h2, h3, h4, h5⟩)
    · exact ⟨⟨.top, 0, 0⟩, rfl, rfl, rfl, rfl⟩
    · refine ⟨⟨.op, h.toNat, 0⟩, ?_, rfl, by simp; omega, rfl⟩
      simp [Sd.ok]
      omega
    · refine ⟨⟨.kp, h.toNat, b.toNat⟩, ?_, rfl, by simp; omega, by simp; omega⟩
      simp [Sd.ok]
      omega
  · rintro ⟨⟨w, h, b⟩, h0, rfl, rfl, rfl⟩
    cases w with
    | top =>
      simp [Sd.ok] at h0
      exact .inl (.inl ⟨rfl, by simp [h0.1], by simp [h0.2]⟩)
    | op =>
      simp [Sd.ok] at h0
      refine .inl (.inr ⟨rfl, ?_, ?_, ?_⟩) <;> simp <;> omega
    | kp =>
      simp [Sd.ok] at h0
      refine .inr ⟨rfl, ?_, ?_, ?_, ?_, ?_⟩ <;> simp <;> omega
theorem badD_sd {L : Nat} {s : Sd} (h : s.ok L = true) : badD L (sdD s) = false := by
  show (!okT L (wdS s.w) s.h s.b) = false
  rw [okT_iff.mpr ⟨s, h, rfl, rfl, rfl⟩] <;> rfl
theorem any_ok {L : Nat} {ss : List Sd} (hp : ss.Perm (progSds L)) (w : Str) (h b : Int) : ((ss.map sdD).any fun z => PyData.eqv z (.tuple [.str w, .int h, .int b])) = okT L w h b := by
  rw [Bool.eq_iff_iff, List.any_eq_true, okT_iff]
  constructor
  · rintro ⟨z, hz, e⟩
    obtain ⟨s, h1, rfl⟩ := List.mem_map.mp hz
    rw [sdD_eqvT, decide_eq_true_eq] at e
    exact ⟨s, mem_progSds.mp (hp.mem_iff.mp h1), e⟩
  · rintro ⟨s, h1, e⟩
    exact ⟨_, List.mem_map.mpr ⟨s, hp.mem_iff.mpr (mem_progSds.mpr h1), rfl⟩, by rw [sdD_eqvT]; exact decide_eq_true e⟩
/-- a datum without parts -/
inductive FlatP : PyData → Prop where
  | non : FlatP .none
  | bl (b : Bool) : FlatP (.bool b)
  | int (i : Int) : FlatP (.int i)
  | str (z : Str) : FlatP (.str z)
theorem FlatP.of {K : PySem.W.Frag} {H : Hp} {v : V} {d : PyData} (h : FlatP d) (r : Dp K H v d) : ∃ T, FlatT v T := by
  cases h <;> cases r
  · exact ⟨_, .non⟩
  · exact ⟨_, .bl _⟩
  · exact ⟨_, .int _⟩
  · exact ⟨_, .str _⟩
theorem dp_ty {K : PySem.W.Frag} {H : Hp} {v : V} {d : PyData} (r : Dp K H v d) : ∃ T : String, TyX K H v (.type T) ∧ (T = "tuple" ∧ (∃ a xs ds, v = .ref a ∧ d = .tuple ds ∧ SqT K H a xs ∧ DpAll K H xs ds) ∨ kitB T "tuple" = some false ∧ ∀ L, badD L d = true) := by
  cases r with
  | non => exact ⟨_, .base .non, .inr ⟨by decide +kernel, fun _ => rfl⟩⟩
  | bl b => exact ⟨_, .base (.bl b), .inr ⟨by decide +kernel, fun _ => rfl⟩⟩
  | int i => exact ⟨_, .base (.int i), .inr ⟨by decide +kernel, fun _ => rfl⟩⟩
  | str z => exact ⟨_, .base (.str z), .inr ⟨by decide +kernel, fun _ => rfl⟩⟩
  | lst h k =>
    refine ⟨"list", ?_, .inr ⟨by decide +kernel, fun _ => rfl⟩⟩
    rcases h with (h | ⟨o, h⟩) | ⟨o, its, n, h1, h2, _⟩
    · exact .base (.lst h)
    · exact .base (.frz h)
    · exact .kList h1 h2
  | tup h k =>
    refine ⟨"tuple", ?_, .inl ⟨rfl, _, _, _, rfl, rfl, h, k⟩⟩
    rcases h with (h | ⟨o, h⟩) | ⟨o, its, n, h1, h2, _⟩
    · exact .base (.tup h)
    · exact .fTuple h
    · exact .kTuple h1 h2
end K32

set_option Elab.async false
set_option linter.all false
set_option maxRecDepth 100000
set_option maxHeartbeats 4000000
namespace K32
open PySem PySem.Spec PyProof.Rows L2
/-! ### BadStanding, checked_standing -/
def BadE (K : PySem.W.Frag) (E : XK) (H : Hp) (v : V) : Prop := ∀ (d : Addr) (H' : Hp), Same H H' → H d = none → H' d = some (.xd [("standing", v)]) → E (.ref (He.ga K "BadStanding")) (some d) H'
def spIni (K : PySem.W.Frag) : Sp := fun vs H Q _ => ∃ a v, vs = [.ref a, v] ∧ H a = some (exo a (He.ga K "BadStanding") none) ∧ Fm K H v ∧
  ∀ dx, H dx = none → dx ≠ a → Q .non (upd (upd H dx (exd dx [("standing", v)])) a (exo a (He.ga K "BadStanding") (some dx)))
theorem scIni : FnScope ["self", "standing"] ["self", "standing"] (defScope sBadInit) := ⟨rfl, rfl, rfl, by decide +kernel, rfl, by decide +kernel, by decide +kernel⟩
section
variable {P : Program} {w : World} {K : PySem.W.Frag} {mg : Str → Option Value} {base : Heap}
theorem fn_ini (T : Tx K mg) : ∃ fd, FnOk P w K mg base CX0 1 (He.ma K (He.ga K "BadStanding") "__init__") fd ["self", "standing"] (spIni K) ∧ Binds K fd ["self", "standing"] [] := by
  obtain ⟨fd, F⟩ : ∃ fd, FnP K "__init__" "BadStanding.__init__" sBadInit (He.ma K (He.ga K "BadStanding") "__init__") fd := T.def_ dBadInit (List.mem_cons_self ..)
  refine ⟨fd, ok0 F scIni (fun vs H Q E h => ?_) fun cdv A outer s H vs Q E hr h => ?_, FunD.bindsN F fun _ _ _ _ _ _ us hl => match us, hl with | [_, _], _ => rfl⟩
  · obtain ⟨a, v, rfl, _⟩ := h
    rfl
  · obtain ⟨a, v, rfl, ha, hf, q⟩ := h
    refine ⟨_, pss_cons (ps_expr (pe_binit (C0 := He.ga K "PressError") (by rfl) (T.glo "PressError" (by decide +kernel)) T.prd T.pga T.pve (pa_cons (pv 0) (pa_cons (pe_joined (PJ.cons pe_str (PJ.cons (pe_fmtD hr (pv 1)) PJ.nil))) pa_nil))))
      (pss_one (ps_ost (pv 0) (pv 1))), ?_⟩
    refine ⟨_, rfl, _, rfl, ?_, _, rfl, hf, fun m hm => ⟨m, rfl, ?_, a, _, _, rfl, by show 1 ≤ 1000; decide, T.oex, ha, _, rfl, _, rfl, a, _, rfl, T.oex, T.noS, .inl ⟨ha, fun dx n ne => q dx n ne⟩⟩⟩
    · decide +kernel
    · rw [sizeLine_eq]
      have e : ∀ x y : Str, (x ++ y).length = x.length + y.length := fun x y => Array.size_append
      rw [e, e]
      have e0 : Str.empty.length = 0 := rfl
      have e1 : (Str.ofString "no standing: ").length ≤ 20 := by decide +kernel
      omega
def tBad (K : PySem.W.Frag) (E : XK) (i : Nat) : TS := fun _ σ H => ∃ v, σ[i]? = some (some v) ∧ Fm K H v ∧ BadE K E H v
theorem ps_bad {X : Cx} {p p0 p2 pos : Pos} {x : Str} {i : Nat} {E : XK} (T : Tx X.K X.mg) (hr : Room 2 X.A) (hc : X.calm = true) (tk : Takes X fun cls d _ H => E cls d H) (hg : Gl X "BadStanding") (hv : PE X (.Name x p) (tVar i))
    (he : starEach [.Name x p] X.env = (false, eval (.Name x p) X.env) :: starEach [] X.env) (hpl : (backTo p2 (starEach [] X.env)).any (·.1) = false) : PS X (.Raise (some (.Call (.Name "BadStanding" p0) [.Name x p] [] p2)) none pos) (tBad X.K E i) := by
  obtain ⟨fd, F, hb⟩ := fn_ini (P := X.prog) (w := X.w) (base := X.base) T
  have tI : PySem.W.typeIn X.K (.ref (He.ma X.K (He.ga X.K "BadStanding") "__init__")) = some (.type "function") := beq_iff_eq.mp T.ini.fn
  refine ⟨fun pins s σ H D I h => (ps_raise hc tk (pmk_oex T.oex T.ini.at_ tI F hr hb .nil pass0 hg (T.glo "BadStanding" (by decide +kernel)) (pa_cons hv pa_nil) (by decide) he hpl)).run pins s σ H D I ?_⟩
  obtain ⟨v, hv, hf, hE⟩ := h
  refine ⟨v, hv, by show 1 ≤ 1000; decide, fun a ha => ⟨a, v, rfl, upd_same, ?_, fun dx n ne => ⟨rfl, dx, [("standing", v)], upd_same, ?_, ?_, hE dx _ (fun b o hb => ?_) ?_ upd_same⟩⟩⟩
  · have e : Same H (upd H a (exo a (He.ga X.K "BadStanding") none)) := Same.upd ha
    cases hf with
    | flat h => exact .flat h
    | tup ht hl h => exact .tup (Evl.ex_t e ht) hl h
    | tup2 ht hl h =>
      refine .tup2 (Evl.ex_t e ht) hl fun x hx => ?_
      rcases h x hx with h | ⟨b, ys, h1, h2, h3⟩
      · exact .inl h
      · exact .inr ⟨b, ys, h1, Evl.ex_t e h2, h3⟩
    | lst hs h0 hl h => exact .lst (Evl.ex_l e hs) h0 hl h
  · rw [upd_ne ne, upd_same]
  · rw [upd_ne ne] at n
    exact n
  · rw [upd_ne ne] at n
    have h1 : b ≠ dx := ne_of_none hb n
    have h2 : b ≠ a := ne_of_none hb ha
    rw [upd_ne h1, del_ne h2, upd_ne h2, upd_ne h1, upd_ne h2]
    exact hb
  · rw [upd_ne ne] at n
    exact n
end
/-! checked_standing -/
theorem u65 {k : Nat} {A : Around} (hr : Room k A) : A.units + 65 < cLine := by
  have h := hr.un
  omega
theorem bad_len {L : Nat} : ∀ {ds : List PyData}, ds.length ≠ 3 → badD L (.tuple ds) = true
  | [], _ => rfl
  | [a], _ => by cases a <;> rfl
  | [a, b], _ => by cases a <;> first | rfl | cases b <;> rfl
  | [_, _, _], h => absurd rfl h
  | a :: b :: c :: _ :: _, _ => by cases a <;> first | rfl | (cases b <;> first | rfl | cases c <;> rfl)
theorem dpAll_len {K : PySem.W.Frag} {H : Hp} : ∀ {vs : List V} {ds : List PyData}, DpAll K H vs ds → vs.length = ds.length
  | _, _, .nil => rfl
  | _, _, .cons _ b => congrArg (· + 1) (dpAll_len b)
def ThreeFlat (d : PyData) : Prop := ∀ a b c, d = .tuple [a, b, c] → FlatP a ∧ FlatP b ∧ FlatP c
def spChk (K : PySem.W.Frag) : Sp := fun vs H Q E => ∃ (L : Nat) (v : V) (d : PyData), vs = [.int L, v] ∧ L ≤ 9 ∧ Dp K H v d ∧ SeqAt.shaped d = true ∧ ThreeFlat d ∧ Fm K H v ∧ (badD L d = false → ∀ H', Same H H' → Q v H') ∧ (badD L d = true → BadE K E H v)
theorem BadE.ext {K : PySem.W.Frag} {E : XK} {H H' : Hp} {v : V} (e : Same H H') (h : BadE K E H v) : BadE K E H' v := fun d H2 e2 n hd => h d H2 (e.trans e2) (by
  cases z : H d with
  | none => rfl
  | some o => rw [e d o z] at n; cases n) hd
theorem Fm.ext {K : PySem.W.Frag} {H H' : Hp} {v : V} (e : Same H H') (h : Fm K H v) : Fm K H' v := by
  cases h with
  | flat h => exact .flat h
  | tup ht hl h => exact .tup (Evl.ex_t e ht) hl h
  | tup2 ht hl h =>
    refine .tup2 (Evl.ex_t e ht) hl fun x hx => ?_
    rcases h x hx with h | ⟨b, ys, h1, h2, h3⟩
    · exact .inl h
    · exact .inr ⟨b, ys, h1, Evl.ex_t e h2, h3⟩
  | lst hs h0 hl h => exact .lst (Evl.ex_l e hs) h0 hl h
mutual
theorem Dp.ext {K : PySem.W.Frag} {H H' : Hp} (e : Same H H') : ∀ {v : V} {d : PyData}, Dp K H v d → Dp K H' v d
  | _, _, .non => .non
  | _, _, .bl b => .bl b
  | _, _, .int i => .int i
  | _, _, .str x => .str x
  | _, _, .lst h k => .lst (Evl.ex_l e h) (DpAll.ext e k)
  | _, _, .tup h k => .tup (Evl.ex_t e h) (DpAll.ext e k)
theorem DpAll.ext {K : PySem.W.Frag} {H H' : Hp} (e : Same H H') : ∀ {vs : List V} {ds : List PyData}, DpAll K H vs ds → DpAll K H' vs ds
  | _, _, .nil => .nil
  | _, _, .cons a b => .cons (Dp.ext e a) (DpAll.ext e b)
end
theorem scChk : FnScope ["length", "thing"] ["length", "thing"] (defScope sChecked) := ⟨rfl, rfl, rfl, by decide +kernel, rfl, by decide +kernel, by decide +kernel⟩
section
variable {P : Program} {w : World} {K : PySem.W.Frag} {mg : Str → Option Value} {base : Heap}
theorem boot_tuple' : bootBuiltins "tuple" = some (.type "tuple") := by decide +kernel
theorem boot_str' : bootBuiltins "str" = some (.type "str") := by decide +kernel
theorem ok_chk (T : Tx K mg) : Ok P w K mg base (L2.CX P w) 3 "checked_standing" ["length", "thing"] (spChk K) := by
  refine Ok.mk' 3 T (st := sChecked) (fun fd F => okX F scChk (fun vs H Q E h => ?_) fun cdv A outer s H vs Q E hr h => ?_) (fun _ _ _ _ _ _ us hl => match us, hl with | [_, _], _ => rfl)
  · obtain ⟨L, v, d, rfl, _⟩ := h
    rfl
  · obtain ⟨L, v, d, rfl, hL, hd, hsh, h3, hf, q, qE⟩ := h
    refine ⟨_, pss_cons (ps_if (PW.pt (pw_or (pt_not (pt_val (pe_callB call_isi (by rfl) (T.fre _ (by decide +kernel)) boot_isi (pa_cons (pv 1) (pa_cons (pe_bltn (v := .ty "tuple") (by rfl) (T.fre _ (by decide +kernel)) boot_tuple' rfl) pa_nil)))))
        (pw_or1 (pt_cmpR op_ne (pe_callB call_len_seq (by rfl) (T.fre _ (by decide +kernel)) PySem.boot_len (pa_cons (pv 1) pa_nil)) pe_int (nomark _)))))
        (pss_one (ps_bad (E := E) (i := 1) T hr rfl (takes_of rfl rfl rfl rfl) (by rfl) (pv 1) (by rfl) (by rfl))) pss_nil)
      (pss_cons (ps_if (PW.pt (pw_or (pt_not (pt_val (pe_callB call_isi (by rfl) (T.fre _ (by decide +kernel)) boot_isi (pa_cons (pe_ix ix_tup (pv 1) pe_int (fun _ _ => rfl)) (pa_cons (pe_bltn (v := .ty "str") (by rfl) (T.fre _ (by decide +kernel)) boot_str' rfl) pa_nil)))))
        (pw_or (pt_not (pt_val (pe_ok (ok_num T) hr (by decide) pass0 (pa_cons (pe_ix ix_tup (pv 1) pe_int (fun _ _ => rfl)) pa_nil))))
          (pw_or1 (pt_not (pt_val (pe_ok (ok_num T) hr (by decide) pass0 (pa_cons (pe_ix ix_tup (pv 1) pe_int (fun _ _ => rfl)) pa_nil))))))))
        (pss_one (ps_bad (E := E) (i := 1) T hr rfl (takes_of rfl rfl rfl rfl) (by rfl) (pv 1) (by rfl) (by rfl))) pss_nil)
      (pss_cons (ps_if (pt_cmpR (op_notInD (u65 hr)) (pv 1) (pe_ok (ok_sds T) hr (by decide) pass0 (pa_cons (pv 0) pa_nil)) (by rfl))
        (pss_one (ps_bad (E := E) (i := 1) T hr rfl (takes_of rfl rfl rfl rfl) (by rfl) (pv 1) (by rfl) (by rfl))) pss_nil)
      (pss_one (ps_ret (pv 1))))), ?_⟩
    obtain ⟨Ty, ty, hT⟩ := dp_ty hd
    rcases hT with ⟨rfl, a, xs, ds, rfl, rfl, ht, hds⟩ | ⟨hT, hB⟩
    · have bad : badD L (.tuple ds) = true → ∃ v, [some (V.int L), some (.ref a)][1]? = some (some v) ∧ Fm K H v ∧ BadE K E H v := fun z => ⟨_, rfl, hf, qE z⟩
      refine ⟨_, rfl, _, _, _, _, true, rfl, .ty "tuple", ty, kit_ty (by decide +kernel), true, rfl, iteF ⟨_, rfl, _, xs, rfl, .inr ht, rfl, _, rfl, ite2 (fun c => bad (bad_len fun z => ?_)) (fun c => ?_)⟩⟩
      · have e : V.int ((xs.length : Nat) : Int) = V.int 3 := by rw [dpAll_len hds, z] <;> rfl
        rw [decide_eq_true e] at c
        exact Bool.noConfusion c
      · have e : xs.length = 3 := by
          by_cases e : V.int ((xs.length : Nat) : Int) = V.int 3
          · injection e with e
            exact Int.ofNat.inj e
          · rw [decide_eq_false e] at c
            exact absurd rfl c
        obtain ⟨x1, x2, x3, rfl⟩ : ∃ x1 x2 x3, xs = [x1, x2, x3] := match xs, e with | [x1, x2, x3], _ => ⟨x1, x2, x3, rfl⟩
        cases hds with
        | cons k1 hds =>
          cases hds with
          | cons k2 hds =>
            cases hds with
            | cons k3 hds =>
              cases hds
              obtain ⟨f1, f2, f3⟩ := h3 _ _ _ rfl
              obtain ⟨T2, t2⟩ := f2.of k2
              obtain ⟨T3, t3⟩ := f3.of k3
              refine ⟨_, rfl, _, _, _, _, rfl, rfl, ht, rfl, ?_⟩
              cases f1 with
              | non =>
                cases k1
                exact ⟨_, _, _, _, false, rfl, .ty "str", (FlatT.non).ty, kit_ty (by decide +kernel), false, rfl, iteT (bad rfl)⟩
              | bl b =>
                cases k1
                exact ⟨_, _, _, _, false, rfl, .ty "str", (FlatT.bl b).ty, kit_ty (by decide +kernel), false, rfl, iteT (bad rfl)⟩
              | int i =>
                cases k1
                exact ⟨_, _, _, _, false, rfl, .ty "str", (FlatT.int i).ty, kit_ty (by decide +kernel), false, rfl, iteT (bad rfl)⟩
              | str z =>
                cases k1
                refine ⟨_, _, _, _, true, rfl, .ty "str", (FlatT.str z).ty, kit_ty (by decide +kernel), true, rfl, iteF ?_⟩
                refine ⟨_, rfl, _, _, _, _, rfl, rfl, ht, rfl, _, _, rfl, t2, _, rfl, ?_⟩
                have no : ∀ {v : V} {d : PyData}, FlatP d → Dp K H v d → isIntV v = false → ∀ i, d ≠ .int i := fun f k h i z => by
                  subst z
                  cases k
                  exact Bool.noConfusion h
                cases e2 : isIntV x2 with
                | false =>
                  refine iteT (bad ?_)
                  have n2 := no f2 k2 e2
                  cases f2 with
                  | int i => exact absurd rfl (n2 i)
                  | _ => rfl
                | true =>
                  refine iteF ⟨_, rfl, _, _, _, _, rfl, rfl, ht, rfl, _, _, rfl, t3, _, rfl, ?_⟩
                  cases f2 with
                  | int h =>
                    cases k2
                    cases e3 : isIntV x3 with
                    | false =>
                      refine iteT (bad ?_)
                      have n3 := no f3 k3 e3
                      cases f3 with
                      | int i => exact absurd rfl (n3 i)
                      | _ => rfl
                    | true =>
                      cases f3 with
                      | int b =>
                        cases k3
                        refine iteF ⟨_, rfl, _, rfl, L, rfl, hL, fun H1 p ys ss e1 hp hss hper => ⟨_, _, Dp.ext e1 hd, .lst (SqL.of hp) (dps_sd hss), hsh, sdDs_shaped ss, _, rfl, ?_⟩⟩
                        rw [any_ok hper]
                        cases ok : okT L z h b with
                        | false => exact iteT ⟨_, rfl, Fm.ext e1 hf, BadE.ext e1 (qE (by show (!okT L z h b) = true; rw [ok] <;> rfl))⟩
                        | true => exact iteF ⟨_, rfl, q (by show (!okT L z h b) = false; rw [ok] <;> rfl) H1 e1⟩
                      | _ =>
                        cases k3
                        exact Bool.noConfusion e3
                  | _ =>
                    cases k2
                    exact Bool.noConfusion e2
    · exact ⟨_, rfl, _, _, _, _, false, rfl, .ty "tuple", ty, kit_ty hT, false, rfl, iteT ⟨v, rfl, hf, qE (hB L)⟩⟩
end
end K32

set_option Elab.async false
set_option linter.all false
set_option maxRecDepth 100000
set_option maxHeartbeats 4000000
namespace K32
open PySem PySem.Spec PyProof.Rows L2
theorem Same.none {H H' : Hp} {a : Addr} (e : Same H H') (h : H' a = none) : H a = none := by
  cases z : H a with
  | none => rfl
  | some o => rw [e a o z] at h; cases h
theorem ok_le {L : Nat} {s : Sd} (h : s.ok L = true) : s.h ≤ L ∧ s.b ≤ L := by
  obtain ⟨w, a, b⟩ := s
  cases w <;> simp [Sd.ok] at h <;> simp <;> omega
theorem flat_int {n : Int} (h1 : -1000 ≤ n) (h2 : n ≤ 1000) : Flat (.int n) := by
  refine .int ?_
  have h : n.natAbs ≤ 1000 := by omega
  exact Nat.lt_of_le_of_lt (Nat.log2_le_self _) (by omega)
theorem flat_wd (w : Wd) : Flat (.str (wdS w)) := by cases w <;> exact .str (by decide +kernel) (by decide +kernel)
theorem sd_flat {L : Nat} {s : Sd} (hL : L ≤ 9) (h : s.ok L = true) : ∀ x ∈ sdV s, Flat x := by
  have h1 := ok_le h
  intro x hx
  simp only [sdV, List.mem_cons, List.not_mem_nil, or_false] at hx
  rcases hx with rfl | rfl | rfl
  · exact flat_wd _
  · exact flat_int (by omega) (by omega)
  · exact flat_int (by omega) (by omega)
theorem fm_sd {K : PySem.W.Frag} {H : Hp} {v : V} {L : Nat} {s : Sd} (hL : L ≤ 9) (h : s.ok L = true) (hv : SdK K H v s) : Fm K H v := by
  obtain ⟨t, rfl, ht⟩ := hv
  exact .tup ht (by show 3 ≤ 10; decide) (sd_flat hL h)
theorem three_sd (s : Sd) : ThreeFlat (sdD s) := fun a b c e => by
  injection e with e
  injection e with e1 e
  injection e with e2 e
  injection e with e3 _
  subst e1 e2 e3
  exact ⟨.str _, .int _, .int _⟩
/-- next_line -/
def spNext (K : PySem.W.Frag) : Sp := fun vs H Q _ => ∃ (L : Nat) (v : V) (s : Sd), vs = [.int L, v] ∧ SdK K H v s ∧ ∀ H' t, Same H H' → H' t = some (.tup [.bl (nextLine L s).1, .int (nextLine L s).2]) → Q (.ref t) H'
theorem scNext : FnScope ["length", "standing", "word", "high", "back"] ["length", "standing"] (defScope sNextLine) := ⟨rfl, rfl, rfl, by decide +kernel, rfl, by decide +kernel, by decide +kernel⟩
section
variable {P : Program} {w : World} {K : PySem.W.Frag} {mg : Str → Option Value} {base : Heap}
theorem ok_next (T : Tx K mg) : Ok P w K mg base CX0 1 "next_line" ["length", "standing"] (spNext K) := by
  refine Ok.mk' 4 T (st := sNextLine) (fun fd F => ok0 F scNext (fun vs H Q E h => ?_) fun cdv A outer s H vs Q E hr h => ?_) (fun _ _ _ _ _ _ us hl => match us, hl with | [_, _], _ => rfl)
  · obtain ⟨L, v, d, rfl, _⟩ := h
    rfl
  · obtain ⟨L, v, s, rfl, ⟨t, rfl, ht⟩, q⟩ := h
    have nd := scNext.nd
    refine ⟨_, pss_cons (ps_asg (pv 1) (pg_tup rfl (pgs_cons (pg_name (i := 2) nd rfl (.inl rfl)) (pgs_cons (pg_name (i := 3) nd rfl (.inl rfl)) (pgs_cons (pg_name (i := 4) nd rfl (.inl rfl)) pgs_nil)))))
      (pss_cons (ps_if (pt_cmpR op_eq (pv 2) pe_str (nomark _)) (pss_one (ps_ret (pe_tup (pa_cons pe_bl (pa_cons pe_int pa_nil))))) pss_nil)
      (pss_one (ps_ret (pe_tup (pa_cons pe_bl (pa_cons (pe_ifExp (pt_cmpR op_eq (pv 3) (pv 0) (nomark _)) (pv 4) (pv 3)) pa_nil)))))), ?_⟩
    obtain ⟨wd, h, b⟩ := s
    have els : wd ≠ .top → nextLine L ⟨wd, h, b⟩ = (false, if h = L then b else h) := fun z => by
      cases wd
      · exact absurd rfl z
      · rfl
      · rfl
    refine ⟨_, rfl, t, _, rfl, ht, rfl, _, _, rfl, _, _, rfl, _, _, rfl, rfl, _, rfl, rfl, _, rfl, ite2 (fun c => ?_) (fun c => ?_)⟩
    · have c := of_decide_eq_true c
      have e : wd = .top := by
        cases wd
        · rfl
        · exact absurd (V.str.inj c) (by show ¬ (("open" : Str) = "top"); decide +kernel)
        · exact absurd (V.str.inj c) (by show ¬ (("kept" : Str) = "top"); decide +kernel)
      subst e
      exact ⟨by show 2 ≤ sizeLine; decide, fun p hp => q _ p (Same.upd hp) upd_same⟩
    · have e : wd ≠ .top := fun z => by
        subst z
        exact c (decide_eq_true rfl)
      have q := fun H' t' => q H' t'
      rw [els e] at q
      refine ⟨_, rfl, _, rfl, rfl, _, rfl, ite2 (fun c => ?_) (fun c => ?_)⟩
      · have c := of_decide_eq_true c
        have c' : h = L := Int.ofNat.inj (V.int.inj c)
        refine ⟨_, rfl, by show 2 ≤ sizeLine; decide, fun p hp => q _ p (Same.upd hp) ?_⟩
        rw [upd_same]
        show _ = some (HO.tup [.bl false, .int ((if h = L then b else h : Nat) : Int)])
        rw [if_pos c'] <;> rfl
      · have c' : h ≠ L := fun z => c (by rw [z]; exact decide_eq_true rfl)
        refine ⟨_, rfl, by show 2 ≤ sizeLine; decide, fun p hp => q _ p (Same.upd hp) ?_⟩
        rw [upd_same]
        show _ = some (HO.tup [.bl false, .int ((if h = L then b else h : Nat) : Int)])
        rw [if_neg c'] <;> rfl
end
/-! ### parting_blocks -/
/-- a value that checked_standing refuses -/
structure OddV (K : PySem.W.Frag) (L : Nat) (H : Hp) (v : V) (d : PyData) : Prop where
  dp : Dp K H v d
  sh : SeqAt.shaped d = true
  th : ThreeFlat d
  fm : Fm K H v
  bad : badD L d = true
  dl : d.depth ≤ 10
def spPart (K : PySem.W.Frag) : Sp := fun vs H Q E => ∃ (L : Nat) (v1 v2 : V), vs = [.int L, v1, v2] ∧ L ≤ 9 ∧
  ((∃ d, OddV K L H v1 d ∧ BadE K E H v1) ∨ ∃ s1, SdK K H v1 s1 ∧ s1.ok L = true ∧ ((∃ d, OddV K L H v2 d ∧ BadE K E H v2) ∨ ∃ s2, SdK K H v2 s2 ∧ s2.ok L = true ∧
    (told L s1 s2 = none → ∀ H', Same H H' → Q .non H') ∧
    ∀ T, told L s1 s2 = some T → ∀ (H' : Hp) (p : Addr) (vs : List V), Same H H' → H p = none → H' p = some (.lst vs) → Paired (BlAt H') vs T → Q (.ref p) H'))
theorem scPart : FnScope ["length", "one", "two", "starts", "row", "twins"] ["length", "one", "two"] (defScope sParting) := ⟨rfl, rfl, rfl, by decide +kernel, rfl, by decide +kernel, by decide +kernel⟩
theorem dp_bi {K : PySem.W.Frag} {H : Hp} {t : Addr} {a : Bool} {i : Int} (h : H t = some (.tup [.bl a, .int i])) : Dp K H (.ref t) (.tuple [.bool a, .int i]) := .tup (SqT.of h) (.cons (.bl _) (.cons (.int _) .nil))
theorem bi_eqv (a c : Bool) (i j : Int) : PyData.eqv (.tuple [.bool a, .int i]) (.tuple [.bool c, .int j]) = decide (a = c ∧ i = j) := by
  have e : PyData.eqv (.tuple [.bool a, .int i]) (.tuple [.bool c, .int j]) = ((a == c) && ((i == j) && true)) := by simp only [PyData.eqv, PyData.eqvAll]
  rw [e, Bool.and_true]
  by_cases h1 : a = c
  · by_cases h2 : i = j
    · rw [decide_eq_true ⟨h1, h2⟩, beq_iff_eq.mpr h1, beq_iff_eq.mpr h2] <;> rfl
    · rw [decide_eq_false fun z => h2 z.2, beq_eq_false_iff_ne.mpr h2, Bool.and_false]
  · rw [decide_eq_false fun z => h1 z.1, beq_eq_false_iff_ne.mpr h1, Bool.false_and]
theorem bi_shaped (a : Bool) (i : Int) : SeqAt.shaped (.tuple [.bool a, .int i]) = true := shaped_of (by simp [PyData.canLay0, PyData.canLayAll0]) (by simp [PyData.depth, PyData.depthAll])
theorem next_le {L : Nat} {s : Sd} (hL : L ≤ 9) (h : s.ok L = true) : (nextLine L s).2 ≤ L := by
  have h1 := ok_le h
  obtain ⟨w, a, b⟩ := s
  have e : w ≠ .top → (nextLine L ⟨w, a, b⟩).2 = if a = L then b else a := fun z => by
    cases w
    · exact absurd rfl z
    · rfl
    · rfl
  by_cases z : w = .top
  · subst z
    exact Nat.zero_le _
  · rw [e z]
    dsimp only at h1
    split <;> omega
theorem rep_one {x : V} : ∀ n : Nat, (List.replicate n [x]).flatten = List.replicate n x
  | 0 => rfl
  | n + 1 => by rw [List.replicate_succ, List.flatten_cons, rep_one n] <;> rfl
section
variable {P : Program} {w : World} {K : PySem.W.Frag} {mg : Str → Option Value} {base : Heap}
theorem ok_part (T : Tx K mg) : Ok P w K mg base (L2.CX P w) 4 "parting_blocks" ["length", "one", "two"] (spPart K) := by
  refine Ok.mk' 5 T (st := sParting) (fun fd F => okX F scPart (fun vs H Q E h => ?_) fun cdv A outer s H vs Q E hr h => ?_) (fun _ _ _ _ _ _ us hl => match us, hl with | [_, _, _], _ => rfl)
  · obtain ⟨L, v1, v2, rfl, _⟩ := h
    rfl
  · obtain ⟨L, v1, v2, rfl, hL, h⟩ := h
    have nd := scPart.nd
    refine ⟨_, pss_cons (ps_expr (pe_ok (ok_chk T) hr (by decide) (passes_call (takes_of rfl rfl rfl rfl) fun _ _ _ _ h => h) (pa_cons (pv 0) (pa_cons (pv 1) pa_nil))))
      (pss_cons (ps_expr (pe_ok (ok_chk T) hr (by decide) (passes_call (takes_of rfl rfl rfl rfl) fun _ _ _ _ h => h) (pa_cons (pv 0) (pa_cons (pv 2) pa_nil))))
      (pss_cons (ps_asg (pe_ok (ok_next T) hr (by decide) pass0 (pa_cons (pv 0) (pa_cons (pv 1) pa_nil))) (pg_tup rfl (pgs_cons (pg_name (i := 3) nd rfl (.inl rfl)) (pgs_cons (pg_name (i := 4) nd rfl (.inl rfl)) pgs_nil))))
      (pss_cons (ps_if (pt_cmpR (op_neD hr.units) (pe_ok (ok_next T) hr (by decide) pass0 (pa_cons (pv 0) (pa_cons (pv 2) pa_nil))) (pe_tup (pa_cons (pv 3) (pa_cons (pv 4) pa_nil))) (nomark _))
        (pss_one (ps_ret (pe_lst (pa_cons (pe_tup (pa_cons pe_int (pa_cons pe_int (pa_cons pe_bl (pa_cons pe_bl pa_nil))))) pa_nil)))) pss_nil)
      (pss_cons (ps_set (i := 5) nd rfl (.inl rfl) (pe_lst (pa_cons (pe_tup (pa_cons pe_str (pa_cons (pv 4) (pa_cons pe_int pa_nil)))) (pa_cons (pe_tup (pa_cons pe_str (pa_cons (pv 0) (pa_cons (pv 4) pa_nil)))) pa_nil))))
      (pss_cons (ps_if (PW.pt (pw_or (pt_cmpR (op_eqD hr.units) (pv 1) (pv 2) (nomark _)) (pw_or1 (PW.pt (pw_and (pt_cmpR (op_inD (u65 hr)) (pv 1) (pv 5) (by rfl)) (pw_and1 (pt_cmpR (op_inD (u65 hr)) (pv 2) (pv 5) (by rfl))))))))
        (pss_one (ps_ret pe_non)) pss_nil)
      (pss_one (ps_ret (pe_op op_cat (pe_op op_rep (pe_lst (pa_cons (pe_tup (pa_cons pe_int (pa_cons pe_int (pa_cons pe_bl (pa_cons pe_bl pa_nil))))) pa_nil)) (pe_op op_sub (pv 0) (pv 4)))
        (pe_lst (pa_cons (pe_tup (pa_cons pe_int (pa_cons pe_int (pa_cons pe_bl (pa_cons pe_bl pa_nil))))) pa_nil)))))))))), ?_⟩
    rcases h with ⟨d, o, e⟩ | ⟨s1, k1, o1, h⟩
    · exact ⟨_, rfl, _, rfl, L, v1, d, rfl, hL, o.dp, o.sh, o.th, o.fm, (fun z => by rw [o.bad] at z; cases z), fun _ => e⟩
    refine ⟨_, rfl, _, rfl, L, v1, _, rfl, hL, dp_sd k1, sdD_shaped s1, three_sd s1, fm_sd hL o1 k1, ?_, fun z => by rw [badD_sd o1] at z; cases z⟩
    intro _ H1 e1
    rcases h with ⟨d, o, e⟩ | ⟨s2, k2, o2, qn, qs⟩
    · exact ⟨_, rfl, _, rfl, L, v2, d, rfl, hL, Dp.ext e1 o.dp, o.sh, o.th, Fm.ext e1 o.fm, (fun z => by rw [o.bad] at z; cases z), fun _ => BadE.ext e1 e⟩
    refine ⟨_, rfl, _, rfl, L, v2, _, rfl, hL, dp_sd (k2.ext e1), sdD_shaped s2, three_sd s2, fm_sd hL o2 (k2.ext e1), ?_, fun z => by rw [badD_sd o2] at z; cases z⟩
    intro _ H2 e2
    have e2 := e1.trans e2
    refine ⟨_, rfl, _, rfl, L, v1, s1, rfl, k1.ext e2, fun H3 t3 e3 h3 => ?_⟩
    have e3 := e2.trans e3
    refine ⟨t3, _, rfl, SqT.of h3, rfl, _, _, rfl, _, _, rfl, rfl, ?_⟩
    refine ⟨_, rfl, _, rfl, L, v2, s2, rfl, k2.ext e3, fun H4 t4 e4 h4 => ?_⟩
    have e4 := e3.trans e4
    refine ⟨_, rfl, _, rfl, by show 2 ≤ sizeLine; decide, fun t5 h5 => ?_⟩
    have e5 := e4.trans (Same.upd (o := HO.tup [.bl (nextLine L s1).1, .int (nextLine L s1).2]) h5)
    refine ⟨_, _, dp_bi (by rw [upd_ne (ne_of_none h4 h5)]; exact h4), dp_bi upd_same, bi_shaped _ _, bi_shaped _ _, _, rfl, ?_⟩
    rw [bi_eqv]
    have one : ∀ {H' : Hp} {t : Addr} {ke : Bool}, H' t = some (.tup [.int 1, .int 0, .bl ke, .bl false]) → BlAt H' (.ref t) (1, 0, ke, false) := fun h => ⟨_, rfl, h⟩
    refine ite2 (fun c => ?_) (fun c => ?_)
    · have ne : nextLine L s2 ≠ nextLine L s1 := fun z => by
        rw [z, decide_eq_true ⟨rfl, rfl⟩] at c
        exact Bool.noConfusion c
      refine ⟨by show 4 ≤ sizeLine; decide, fun t6 h6 => ⟨by show 1 ≤ sizeLine; decide, fun p hp => ?_⟩⟩
      refine qs _ (if_pos ne) _ p _ (e5.trans ((Same.upd h6).trans (Same.upd hp))) (Same.none e5 (Same.none (Same.upd h6) hp)) upd_same (.cons (one ?_) .nil)
      rw [upd_ne (ne_of_none upd_same hp), upd_same]
    have eq : nextLine L s2 = nextLine L s1 := by
      by_cases z : (nextLine L s2).1 = (nextLine L s1).1 ∧ ((nextLine L s2).2 : Int) = (nextLine L s1).2
      · exact Prod.ext z.1 (Int.ofNat.inj z.2)
      · rw [decide_eq_false z] at c
        exact absurd rfl c
    refine ⟨_, rfl, by show 3 ≤ sizeLine; decide, fun t6 h6 => ⟨_, rfl, _, rfl, by show 3 ≤ sizeLine; decide, fun t7 h7 => ⟨by show 2 ≤ sizeLine; decide, fun p8 h8 => ?_⟩⟩⟩
    have e6 := Same.upd (o := HO.tup [.str "kept", .int (nextLine L s1).2, .int 0]) h6
    have e7 := Same.upd (o := HO.tup [.str "kept", .int L, .int (nextLine L s1).2]) h7
    have e8 := Same.upd (o := HO.lst [.ref t6, .ref t7]) h8
    have e9 := e5.trans (e6.trans (e7.trans e8))
    have hT : Paired (SdK K _) [.ref t6, .ref t7] (twins L (nextLine L s1).2) := .cons ⟨t6, rfl, SqT.of (e8 _ _ (e7 _ _ upd_same))⟩ (.cons ⟨t7, rfl, SqT.of (e8 _ _ upd_same)⟩ .nil)
    have hTd : Dp K _ (.ref p8) (.list ((twins L (nextLine L s1).2).map sdD)) := .lst (SqL.of upd_same) (dps_sd hT)
    have k1' := dp_sd (k1.ext e9)
    have k2' := dp_sd (k2.ext e9)
    refine ⟨_, rfl, _, rfl, _, _, k1', k2', sdD_shaped _, sdD_shaped _, _, rfl, ?_⟩
    rw [sdD_eqv]
    refine ite2 (fun c1 => ?_) (fun c1 => ?_)
    · exact qn (by
        unfold told
        rw [if_neg (fun z => z eq), if_pos (.inl (of_decide_eq_true c1))]) _ e9
    have c1 : ¬ s1 = s2 := fun z => c1 (decide_eq_true z)
    refine ⟨_, rfl, _, rfl, _, _, k1', hTd, sdD_shaped _, sdDs_shaped _, _, rfl, ?_⟩
    rw [any_sd]
    refine ite2 (fun c2 => ⟨_, rfl, _, rfl, _, _, k2', hTd, sdD_shaped _, sdDs_shaped _, _, rfl, ?aa⟩) (fun c2 => ?bb)
    case' aa =>
      rw [any_sd]
      refine ite2 (fun c3 => ?_) (fun c3 => ?_)
      · exact qn (by
          unfold told
          rw [if_neg (fun z => z eq), if_pos (.inr ⟨of_decide_eq_true c2, of_decide_eq_true c3⟩)]) _ e9
      have no : told L s1 s2 = some (tellB L (nextLine L s1).2) := by
        unfold told
        rw [if_neg (fun z => z eq), if_neg fun z => z.elim c1 fun z => c3 (decide_eq_true z.2)]
    case' bb =>
      have no : told L s1 s2 = some (tellB L (nextLine L s1).2) := by
        unfold told
        rw [if_neg (fun z => z eq), if_neg fun z => z.elim c1 fun z => c2 (decide_eq_true z.1)]
    all_goals
      have hr0 := next_le hL o1
      refine ⟨by show 4 ≤ sizeLine; decide, fun ta ha => ⟨by show 1 ≤ sizeLine; decide, fun la hla => ⟨_, rfl, _, rfl, _, _, rfl, rfl, la, _, _, rfl, rfl, upd_same, by omega, by omega, ?_, fun lb hlb =>
        ⟨by show 4 ≤ sizeLine; decide, fun tb htb => ⟨by show 1 ≤ sizeLine; decide, fun lc hlc => ⟨lb, lc, (List.replicate ((L : Int) - (nextLine L s1).2).toNat [V.ref ta]).flatten, [.ref tb], rfl, rfl, ?_, upd_same, ?_, fun ld hld => ?_⟩⟩⟩⟩⟩⟩
      · show 1 * _ ≤ sizeLine
        rw [sizeLine_eq]
        omega
      · exact Same.upd hlc _ _ (Same.upd htb _ _ upd_same)
      · rw [rep_one, List.length_replicate]
        show _ + 1 ≤ sizeLine
        rw [sizeLine_eq]
        omega
      · have f1 := Same.upd (o := HO.tup [.int 1, .int 0, .bl true, .bl false]) ha
        have f2 := Same.upd (o := HO.lst [.ref ta]) hla
        have f3 := Same.upd (o := HO.lst (List.replicate ((L : Int) - (nextLine L s1).2).toNat [V.ref ta]).flatten) hlb
        have f4 := Same.upd (o := HO.tup [.int 1, .int 0, .bl false, .bl false]) htb
        have f5 := Same.upd (o := HO.lst [.ref tb]) hlc
        have f6 := Same.upd (o := HO.lst ((List.replicate ((L : Int) - (nextLine L s1).2).toNat [V.ref ta]).flatten ++ [.ref tb])) hld
        refine qs _ no _ ld _ (e9.trans (f1.trans (f2.trans (f3.trans (f4.trans (f5.trans f6)))))) (Same.none (e9.trans (f1.trans (f2.trans (f3.trans (f4.trans f5))))) hld) upd_same ?_
        have el : (List.replicate ((L : Int) - (nextLine L s1).2).toNat [V.ref ta]).flatten = List.replicate (L - (nextLine L s1).2) (V.ref ta) := by rw [rep_one, show ((L : Int) - (nextLine L s1).2).toNat = L - (nextLine L s1).2 by omega]
        have key := Paired.app (Paired.rep (one (f6 _ _ (f5 _ _ (f4 _ _ (f3 _ _ (f2 _ _ upd_same)))))) (L - (nextLine L s1).2)) (.cons (one (f6 _ _ (f5 _ _ upd_same))) .nil)
        rw [← el] at key
        exact key
end
end K32

set_option Elab.async false
set_option linter.all false
set_option maxRecDepth 100000
set_option maxHeartbeats 4000000
namespace K32
open PySem PySem.Spec PyProof.Rows L2
/-! ### a page on the heap -/
def fsOf (L : Nat) (q l : Addr) (high : Int) (bar : Bool) (u : V) : List (Str × V) := [("length", .int L), ("put_lines", .ref q), ("loose", .ref l), ("high", .int high), ("is_barred", .bl bar), ("unknown", u)]
theorem fs_loose {L : Nat} {q l l' : Addr} {high : Int} {bar : Bool} {u : V} : putF "loose" (.ref l') (fsOf L q l high bar u) = fsOf L q l' high bar u := by kernel_rfl
theorem fs_high {L : Nat} {q l : Addr} {high h' : Int} {bar : Bool} {u : V} : putF "high" (.int h') (fsOf L q l high bar u) = fsOf L q l h' bar u := by kernel_rfl
theorem fs_bar {L : Nat} {q l : Addr} {high : Int} {bar b' : Bool} {u : V} : putF "is_barred" (.bl b') (fsOf L q l high bar u) = fsOf L q l high b' u := by kernel_rfl
theorem fs_unk {L : Nat} {q l : Addr} {high : Int} {bar : Bool} {u u' : V} : putF "unknown" u' (fsOf L q l high bar u) = fsOf L q l high bar u' := by kernel_rfl
def PgAt (C : Addr) (H : Hp) (p : Addr) (L : Nat) (high : Int) (bar : Bool) (q l : Addr) (xs ys : List Addr) : Prop :=
  ∃ dx u, H p = some (.ins C dx (fsOf L q l high bar u)) ∧ (u = .non ∨ ∃ b, u = .bl b) ∧ H q = some (.lst (xs.map V.ref)) ∧ H l = some (.lst (ys.map V.ref)) ∧ q ≠ l
def Ent (H : Hp) (a : Addr) (r : Rw) : Prop := H a = some (.lst [.bl r.1, .int r.2])
abbrev Ents (H : Hp) (as : List Addr) (rs : List Rw) : Prop := Paired (Ent H) as rs
def phs : Option Int → List Rw
  | none => []
  | some r => [(false, r)]
structure Foot (H0 : Hp) (p q l : Addr) (as : List Addr) : Prop where
  p0 : H0 p = none
  q0 : H0 q = none
  l0 : H0 l = none
  as0 : ∀ a ∈ as, H0 a = none
def On (H0 : Hp) (C : Addr) (H : Hp) (p : Addr) (L : Nat) (g : Pg) : Prop := ∃ (q l : Addr) (ds ls pa : List Addr), PgAt C H p L g.high g.bar q l (ds ++ ls) (pa ++ ls) ∧ Ents H ds g.done ∧ Ents H ls g.lo ∧ Ents H pa (phs g.ph) ∧ (ds ++ ls ++ pa).Nodup ∧ Same H0 H ∧ Foot H0 p q l (ds ++ ls ++ pa)
theorem PgAt.same {C : Addr} {H H' : Hp} {p : Addr} {L : Nat} {high : Int} {bar : Bool} {q l : Addr} {xs ys : List Addr} (e : Same H H') (h : PgAt C H p L high bar q l xs ys) : PgAt C H' p L high bar q l xs ys := by
  obtain ⟨dx, u, h1, h2, h3, h4, h5⟩ := h
  exact ⟨dx, u, e _ _ h1, h2, e _ _ h3, e _ _ h4, h5⟩
theorem Ents.same {H H' : Hp} {as : List Addr} {rs : List Rw} (e : Same H H') (h : Ents H as rs) : Ents H' as rs := Paired.imp (fun _ _ k => e _ _ k) h
theorem On.same {H0 : Hp} {C : Addr} {H H' : Hp} {p : Addr} {L : Nat} {g : Pg} (e : Same H H') (h : On H0 C H p L g) : On H0 C H' p L g := by
  obtain ⟨q, l, ds, ls, pa, h1, h2, h3, h4, h5, h6, h7⟩ := h
  exact ⟨q, l, ds, ls, pa, h1.same e, h2.same e, h3.same e, h4.same e, h5, h6.trans e, h7⟩
/-- one more object ahead of the page -/
theorem On.more {H0 : Hp} {C : Addr} {H : Hp} {p e : Addr} {L : Nat} {g : Pg} {o : HO} (n : H e = none) (h : On H0 C H p L g) : On (upd H0 e o) C (upd H e o) p L g := by
  have k := Same.upd (o := o) n
  obtain ⟨q, l, ds, ls, pa, h1, h2, h3, h4, h5, h6, h7⟩ := h
  have he : H0 e = none := Same.none h6 n
  have ne : ∀ {a u}, H a = some u → a ≠ e := fun q => ne_of_none q n
  have h1' := h1
  obtain ⟨dx, u, j1, j2, j3, j4, j5⟩ := h1'
  have mem : ∀ {as : List Addr} {rs : List Rw}, Ents H as rs → ∀ a ∈ as, a ≠ e := fun k a ha => by
    obtain ⟨i, hi, e1⟩ := List.mem_iff_getElem.mp ha
    obtain ⟨y, _, z⟩ := Paired.at1 k (show _ = some a by rw [List.getElem?_eq_getElem hi, e1])
    exact ne z
  refine ⟨q, l, ds, ls, pa, h1.same k, h2.same k, h3.same k, h4.same k, h5, fun b u hb => ?_, ⟨?_, ?_, ?_, fun a ha => ?_⟩⟩
  · by_cases z : b = e
    · rw [z, upd_same] at hb
      rw [z, upd_same]
      exact hb
    · rw [upd_ne z] at hb
      exact k _ _ (h6 _ _ hb)
  · rw [upd_ne (ne j1)]
    exact h7.p0
  · rw [upd_ne (ne j3)]
    exact h7.q0
  · rw [upd_ne (ne j4)]
    exact h7.l0
  · have : a ≠ e := by
      rcases List.mem_append.mp ha with z | z
      · rcases List.mem_append.mp z with z | z
        · exact mem h2 a z
        · exact mem h3 a z
      · exact mem h4 a z
    rw [upd_ne this]
    exact h7.as0 a ha
theorem On.less {H0 H1 : Hp} {C : Addr} {H : Hp} {p : Addr} {L : Nat} {g : Pg} (e : Same H0 H1) (h : On H1 C H p L g) : On H0 C H p L g := by
  obtain ⟨q, l, ds, ls, pa, h1, h2, h3, h4, h5, h6, h7⟩ := h
  exact ⟨q, l, ds, ls, pa, h1, h2, h3, h4, h5, e.trans h6, ⟨Same.none e h7.p0, Same.none e h7.q0, Same.none e h7.l0, fun a ha => Same.none e (h7.as0 a ha)⟩⟩
/-- a store at an address that no entry has -/
theorem Ents.far {H : Hp} {x : Addr} {o : HO} {as : List Addr} {rs : List Rw} (h : Ents H as rs) (n : ∀ r : Rw, ¬ Ent H x r) : Ents (upd H x o) as rs := Paired.imp (fun a r k => by
  show upd H x o a = _
  rw [upd_ne (fun z => n r (by rw [← z]; exact k))]
  exact k) h
theorem ent_ins {H : Hp} {x C dx : Addr} {fs : List (Str × V)} (h : H x = some (.ins C dx fs)) (r : Rw) : ¬ Ent H x r := fun z => by
  have z' : H x = some (.lst [.bl r.1, .int r.2]) := z
  rw [h] at z'
  cases z'
theorem ent_refs {H : Hp} {x : Addr} {xs : List Addr} (h : H x = some (.lst (xs.map V.ref))) (r : Rw) : ¬ Ent H x r := fun z => by
  have z' : H x = some (.lst [.bl r.1, .int r.2]) := z
  rw [h] at z'
  cases xs with
  | nil => cases z'
  | cons y ys =>
    injection z' with z'
    injection z' with z'
    injection z' with z' _
    cases z'
theorem ins_ne_lst {H : Hp} {x y C dx : Addr} {fs : List (Str × V)} {xs : List V} (h : H x = some (.ins C dx fs)) (k : H y = some (.lst xs)) : y ≠ x := fun z => by
  rw [z, h] at k
  cases k
section
variable {P : Program} {w : World} {K : PySem.W.Frag} {mg : Str → Option Value} {base : Heap}
abbrev PC (K : PySem.W.Frag) : Addr := He.ga K "Page"
theorem Tx.fnP (T : Tx K mg) {m q : Str} {st : Stmt} (hm : dm m q st ∈ defs) : ∃ fd, FnP K m q st (He.ma K (PC K) m) fd := T.def_ (dm m q st) hm
/-- stay, go_over, begin -/
def spTo (K : PySem.W.Frag) (ok : Pg → Prop) (f : Pg → Pg) : Sp := fun vs H Q _ => ∃ (p : Addr) (H0 : Hp) (L : Nat) (g : Pg), vs = [.ref p] ∧ On H0 (PC K) H p L g ∧ ok g ∧ ∀ H', On H0 (PC K) H' p L (f g) → Q .non H'
theorem scStay : FnScope ["self"] ["self"] (defScope sStay) := ⟨rfl, rfl, rfl, by decide +kernel, rfl, by decide +kernel, by decide +kernel⟩
theorem fn_stay (T : Tx K mg) : ∃ fd, FnOk P w K mg base CX0 1 (He.ma K (PC K) "stay") fd ["self"] (spTo K (fun _ => True) Pg.stay) ∧ Binds K fd ["self"] [] := by
  obtain ⟨fd, F⟩ := T.fnP (m := "stay") (q := "Page.stay") (st := sStay) (List.mem_of_getElem? (i := 8) rfl)
  refine ⟨fd, ok0 F scStay (fun vs H Q E h => ?_) fun cdv A outer s H vs Q E hr h => ?_, FunD.bindsN F fun _ _ _ _ _ _ us hl => match us, hl with | [_], _ => rfl⟩
  · obtain ⟨p, H0, L, g, rfl, _⟩ := h
    rfl
  · obtain ⟨p, H0, L, g, rfl, ⟨q, l, ds, ls, pa, ⟨dx, u, h1, hu, h3, h4, h5⟩, e1, e2, e3, nd, sm, ft⟩, _, qq⟩ := h
    refine ⟨_, pss_cons (ps_fld (pv 0) (pe_lst pa_nil) rfl) (pss_one (ps_if (pt_cmpR op_isN (pe_fld (pv 0) rfl) pe_non (nomark _)) (pss_one (ps_fld (pv 0) pe_bl rfl)) pss_nil)), ?_⟩
    refine ⟨Nat.zero_le _, fun l' hl' => ⟨_, rfl, p, PC K, dx, _, rfl, (by rw [upd_ne (ne_of_none h1 hl')]; exact h1), T.cls, T.noat _ (by decide +kernel), by show 6 < 1000; decide, ?_⟩⟩
    rw [fs_loose]
    have n1 : l' ≠ p := (ne_of_none h1 hl').symm
    have n2 : q ≠ l' := ne_of_none h3 hl'
    have n3 : q ≠ p := ins_ne_lst h1 h3
    have s1 := Same.upd (o := HO.lst []) hl'
    have fin : ∀ u', (u' = V.non ∨ ∃ b, u' = .bl b) → On H0 (PC K) (upd (upd H l' (.lst [])) p (.ins (PC K) dx (fsOf L q l' g.high g.bar u'))) p L g.stay := fun u' hu' => by
      have pi : (upd H l' (.lst [])) p = some (.ins (PC K) dx (fsOf L q l g.high g.bar u)) := s1 _ _ h1
      refine ⟨q, l', ds ++ ls, [], [], ⟨dx, u', upd_same, hu', ?_, ?_, n2⟩, ?_, .nil, .nil, ?_, ?_, ⟨ft.p0, ft.q0, Same.none sm hl', ?_⟩⟩
      · rw [upd_ne n3, List.append_nil]
        exact s1 _ _ h3
      · rw [upd_ne n1, upd_same] <;> rfl
      · exact Ents.far (Ents.same s1 (Paired.app e1 e2)) (ent_ins pi)
      · rw [List.append_nil, List.append_nil]
        exact (List.nodup_append.mp nd).1
      · exact Same.upd' (sm.trans s1) ft.p0
      · intro a ha
        rw [List.append_nil, List.append_nil] at ha
        exact ft.as0 a (List.mem_append_left _ ha)
    refine ⟨_, rfl, p, PC K, dx, _, u, rfl, upd_same, T.cls, T.noat _ (by decide +kernel), by kernel_rfl, rfl, _, rfl, ite2 (fun c => ?_) (fun c => ?_)⟩
    · refine ⟨_, rfl, p, PC K, dx, _, rfl, upd_same, T.cls, T.noat _ (by decide +kernel), by show 6 < 1000; decide, ?_⟩
      rw [fs_unk, upd_upd]
      exact qq _ (fin _ (.inr ⟨_, rfl⟩))
    · exact qq _ (fin _ hu)
end
end K32

set_option Elab.async false
set_option linter.all false
set_option maxRecDepth 100000
set_option maxHeartbeats 4000000
namespace K32
open PySem PySem.Spec PyProof.Rows L2
/-! ### go_over -/
theorem Paired.of_pt {α β : Type} {R : α → β → Prop} : ∀ {xs : List α} {ys : List β}, xs.length = ys.length → (∀ (j : Nat) (x : α) (y : β), xs[j]? = some x → ys[j]? = some y → R x y) → Paired R xs ys
  | [], [], _, _ => .nil
  | x :: xs, y :: ys, h, k => .cons (k 0 x y rfl rfl) (Paired.of_pt (by simpa using h) fun j a b ha hb => k (j + 1) a b (by simpa using ha) (by simpa using hb))
  | [], _ :: _, h, _ => by simp at h
  | _ :: _, [], h, _ => by simp at h
theorem nodup_ne {as : List Addr} (nd : as.Nodup) {i j : Nat} {a b : Addr} (hi : as[i]? = some a) (hj : as[j]? = some b) (n : i ≠ j) : a ≠ b := fun z => by
  subst z
  obtain ⟨h1, e1⟩ := List.getElem?_eq_some_iff.mp hi
  obtain ⟨h2, e2⟩ := List.getElem?_eq_some_iff.mp hj
  rcases Nat.lt_or_gt_of_ne n with z | z
  · exact List.pairwise_iff_getElem.mp nd i j h1 h2 z (e1.trans e2.symm)
  · exact List.pairwise_iff_getElem.mp nd j i h2 h1 z (e2.trans e1.symm)
theorem Ents.off {H : Hp} {x : Addr} {o : HO} {as : List Addr} {rs : List Rw} (h : Ents H as rs) (n : x ∉ as) : Ents (upd H x o) as rs := by
  refine Paired.of_pt (Paired.length h) fun j a r ha hr => ?_
  obtain ⟨r', h1, h2⟩ := Paired.at1 h ha
  rw [hr] at h1
  cases h1
  show upd H x o a = _
  rw [upd_ne (fun z => n (by rw [← z]; exact List.mem_of_getElem? ha))]
  exact h2
theorem go_shift (g : Pg) (h : g.isLoose = true) : ∃ r0 rest, phs g.ph ++ g.lo = r0 :: rest ∧ r0.2 = g.shift := by
  obtain ⟨dn, ph, lo, hi, ba⟩ := g
  cases ph with
  | some r => exact ⟨_, _, rfl, rfl⟩
  | none =>
    cases lo with
    | nil => exact Bool.noConfusion h
    | cons r lo => exact ⟨_, _, rfl, rfl⟩
def shR (s : Int) (r : Rw) : Rw := (r.1, r.2 - s)
theorem gone_ents {H : Hp} {pa ls : List Addr} {g : Pg} (hl : pa.length = (phs g.ph).length) (h : Ents H (pa ++ ls) (setTrue ((phs g.ph ++ g.lo).map (shR g.shift)))) : Ents H ls g.goneLo := by
  obtain ⟨dn, ph, lo, hi, ba⟩ := g
  cases ph with
  | some r =>
    match pa, hl with
    | [a], _ =>
      cases h with
      | cons _ h => exact h
  | none =>
    match pa, hl with
    | [], _ => exact h
theorem scGo : FnScope ["self", "shift", "line", "first"] ["self"] (defScope sGoOver) := ⟨rfl, rfl, rfl, by decide +kernel, rfl, by decide +kernel, by decide +kernel⟩
section
variable {P : Program} {w : World} {K : PySem.W.Frag} {mg : Str → Option Value} {base : Heap}
theorem fn_go (T : Tx K mg) : ∃ fd, FnOk P w K mg base CX0 1 (He.ma K (PC K) "go_over") fd ["self"] (spTo K (fun g => g.isLoose = true) Pg.goOver) ∧ Binds K fd ["self"] [] := by
  obtain ⟨fd, F⟩ := T.fnP (m := "go_over") (q := "Page.go_over") (st := sGoOver) (List.mem_of_getElem? (i := 9) rfl)
  refine ⟨fd, ok0 F scGo (fun vs H Q E h => ?_) fun cdv A outer s H vs Q E hr h => ?_, FunD.bindsN F fun _ _ _ _ _ _ us hl => match us, hl with | [_], _ => rfl⟩
  · obtain ⟨p, H0, L, g, rfl, _⟩ := h
    rfl
  · obtain ⟨p, H0, L, g, rfl, ⟨q, l, ds, ls, pa, ⟨dx, u, h1, hu, h3, h4, h5⟩, e1, e2, e3, nd, sm, ft⟩, hlo, qq⟩ := h
    have snd := scGo.nd
    refine ⟨_, pss_cons (ps_set (i := 1) snd rfl (.inl rfl) (pe_ix ix_list (pe_ix ix_list (pe_fld (pv 0) rfl) pe_int (fun _ _ => rfl)) pe_int (fun _ _ => rfl)))
      (pss_cons (ps_for PassesOwn.never rfl (pi_list (pe_fld (pv 0) rfl)) (pg_name (i := 2) snd rfl (.inl rfl)) (pss_one (ps_asg (pe_op op_sub (pe_ix ix_list (pv 2) pe_int (fun _ _ => rfl)) (pv 1)) (pg_sub (pv 2) pe_int set_list))))
      (pss_cons (ps_set (i := 3) snd rfl (.inl rfl) (pe_ix ix_list (pe_fld (pv 0) rfl) pe_int (fun _ _ => rfl)))
      (pss_cons (ps_asg pe_bl (pg_sub (pv 3) pe_int set_list))
      (pss_cons (ps_fld (pv 0) (pe_op op_sub (pe_fld (pv 0) rfl) (pv 1)) rfl)
      (pss_cons (ps_fld (pv 0) (pe_lst pa_nil) rfl)
      (pss_one (ps_if (pt_cmpR op_isN (pe_fld (pv 0) rfl) pe_non (nomark _)) (pss_one (ps_fld (pv 0) pe_bl rfl)) pss_nil))))))), ?_⟩
    obtain ⟨r0, rest, ers, esh⟩ := go_shift g hlo
    have eA : Ents H (pa ++ ls) (r0 :: rest) := by
      have z := Paired.app e3 e2
      rw [ers] at z
      exact z
    obtain ⟨a0, as', eas⟩ : ∃ a0 as', pa ++ ls = a0 :: as' := by
      cases z : pa ++ ls with
      | nil =>
        rw [z] at eA
        cases eA
      | cons a as' => exact ⟨_, _, rfl⟩
    have nda : (pa ++ ls).Nodup := by
      rw [List.append_assoc] at nd
      exact (List.perm_append_comm.nodup_iff).mp (List.nodup_append.mp nd).2.1
    have dis : ∀ a ∈ pa ++ ls, a ∉ ds := fun a ha hd => by
      rw [List.append_assoc] at nd
      exact (List.nodup_append.mp nd).2.2 a hd a (by
        rcases List.mem_append.mp ha with z | z
        · exact List.mem_append_right _ z
        · exact List.mem_append_left _ z) rfl
    have new0 : ∀ a ∈ pa ++ ls, H0 a = none := fun a ha => ft.as0 a (by
      rcases List.mem_append.mp ha with z | z
      · exact List.mem_append_right _ z
      · exact List.mem_append_left _ (List.mem_append_right _ z))
    have ent0 : Ent H a0 r0 := by
      rw [eas] at eA
      cases eA with
      | cons z _ => exact z
    have at0 : atI ((pa ++ ls).map V.ref) 0 = some (V.ref a0) := atI_nat (j := 0) (by rw [eas] <;> rfl)
    refine ⟨_, rfl, p, _, dx, _, _, rfl, h1, T.cls, T.noat _ (by decide +kernel), (by kernel_rfl : _ = some (V.ref l)), l, _, _, _, rfl, rfl, SqL.of h4, at0, a0, _, _, _, rfl, rfl, SqL.of ent0, rfl, ?_⟩
    refine ⟨_, rfl, p, _, dx, _, _, rfl, h1, T.cls, T.noat _ (by decide +kernel), (by kernel_rfl : _ = some (V.ref l)), l, rfl, ⟨_, SqL.of h4⟩, for_list (xs := (pa ++ ls).map V.ref)
      (fun i σ H1 => ∃ vl, σ = [some (.ref p), some (.int r0.2), vl, none] ∧ H1 p = some (.ins (PC K) dx (fsOf L q l g.high g.bar u)) ∧ H1 q = some (.lst ((ds ++ ls).map V.ref)) ∧ H1 l = some (.lst ((pa ++ ls).map V.ref)) ∧ Ents H1 ds g.done ∧ Same H0 H1 ∧
        ∀ (j : Nat) (a : Addr) (r : Rw), (pa ++ ls)[j]? = some a → (r0 :: rest)[j]? = some r → Ent H1 a (if j < i then shR r0.2 r else r)) ?_ ?_ ?_ ?_⟩
    · refine ⟨none, rfl, h1, h3, h4, e1, sm, fun j a r ha hrr => ?_⟩
      obtain ⟨r', k1, k2⟩ := Paired.at1 eA ha
      rw [hrr] at k1
      cases k1
      rw [if_neg (Nat.not_lt_zero _)]
      exact k2
    · rintro i σ H1 _ ⟨vl, rfl, _, _, k, _⟩
      exact SqL.of k
    · rintro i x σ H1 hx ⟨vl, rfl, k1, k2, k3, k4, k5, k6⟩
      obtain ⟨a, ha, rfl⟩ : ∃ a, (pa ++ ls)[i]? = some a ∧ x = V.ref a := by
        rw [List.getElem?_map] at hx
        cases z : (pa ++ ls)[i]? with
        | none =>
          rw [z] at hx
          cases hx
        | some a =>
          rw [z] at hx
          cases hx
          exact ⟨a, rfl, rfl⟩
      obtain ⟨r, hrr, _⟩ := Paired.at1 eA ha
      have ea := k6 i a r ha hrr
      rw [if_neg (Nat.lt_irrefl _)] at ea
      have hm : a ∈ pa ++ ls := List.mem_of_getElem? ha
      refine ⟨_, rfl, a, _, 1, .int r.2, rfl, rfl, SqL.of ea, rfl, _, rfl, _, _, rfl, rfl, _, rfl, a, _, 1, 1, rfl, rfl, ea, rfl, _, rfl, ?_, ?_, ?_, k4.off (dis a hm), Same.upd' k5 (new0 a hm), fun j b r' hb hr' => ?_⟩
      · rw [upd_ne (fun z => ent_ins k1 r (by rw [z]; exact ea))]
        exact k1
      · rw [upd_ne (fun z => ent_refs k2 r (by rw [z]; exact ea))]
        exact k2
      · rw [upd_ne (fun z => ent_refs k3 r (by rw [z]; exact ea))]
        exact k3
      · by_cases z : j = i
        · subst z
          rw [ha] at hb
          rw [hrr] at hr'
          cases hb
          cases hr'
          rw [if_pos (Nat.lt_succ_self _)]
          exact upd_same
        · have y := k6 j b r' hb hr'
          show upd H1 a _ b = _
          rw [upd_ne (nodup_ne nda hb ha z)]
          by_cases w : j < i
          · rw [if_pos w] at y
            rw [if_pos (by omega)]
            exact y
          · rw [if_neg w] at y
            rw [if_neg (by omega)]
            exact y
    · rintro σ H1 ⟨vl, rfl, k1, k2, k3, k4, k5, k6⟩
      have eB : Ents H1 (pa ++ ls) ((r0 :: rest).map (shR r0.2)) := Paired.of_pt (by rw [Paired.length eA]; simp) fun j a r ha hrr => by
        rw [List.getElem?_map] at hrr
        cases z : (r0 :: rest)[j]? with
        | none =>
          rw [z] at hrr
          cases hrr
        | some r' =>
          rw [z] at hrr
          cases hrr
          have y := k6 j a r' ha z
          rw [if_pos (by
            have := (List.getElem?_eq_some_iff.mp ha).1
            simpa using this)] at y
          exact y
      rw [eas, List.map_cons] at eB
      cases eB with
      | cons x0 x1 =>
        have hm : a0 ∈ pa ++ ls := by rw [eas]; exact List.mem_cons_self ..
        have nda' := nda
        rw [eas, List.nodup_cons] at nda'
        refine ⟨_, rfl, p, _, dx, _, _, rfl, k1, T.cls, T.noat _ (by decide +kernel), (by kernel_rfl : _ = some (V.ref l)), l, _, _, _, rfl, rfl, SqL.of k3, at0, ?_⟩
        refine ⟨_, rfl, a0, _, 0, 0, rfl, rfl, x0, rfl, ?_⟩
        have y1 : (upd H1 a0 (.lst ([V.bl (shR r0.2 r0).1, V.int (shR r0.2 r0).2].set 0 (V.bl true)))) p = some (.ins (PC K) dx (fsOf L q l g.high g.bar u)) := by
          rw [upd_ne (fun z => ent_ins k1 _ (by rw [z]; exact x0))]
          exact k1
        have y2 : (upd H1 a0 (.lst ([V.bl (shR r0.2 r0).1, V.int (shR r0.2 r0).2].set 0 (V.bl true)))) q = some (.lst ((ds ++ ls).map V.ref)) := by
          rw [upd_ne (fun z => ent_refs k2 _ (by rw [z]; exact x0))]
          exact k2
        have y4 : Ents (upd H1 a0 (.lst ([V.bl (shR r0.2 r0).1, V.int (shR r0.2 r0).2].set 0 (V.bl true)))) ds g.done := k4.off (dis a0 hm)
        have y5 : Same H0 (upd H1 a0 (.lst ([V.bl (shR r0.2 r0).1, V.int (shR r0.2 r0).2].set 0 (V.bl true)))) := Same.upd' k5 (new0 a0 hm)
        have y6 : Ents (upd H1 a0 (.lst ([V.bl (shR r0.2 r0).1, V.int (shR r0.2 r0).2].set 0 (V.bl true)))) ls g.goneLo := by
          refine gone_ents (pa := pa) (Paired.length e3) ?_
          rw [ers, eas, List.map_cons, ← esh]
          exact .cons upd_same (Ents.off x1 nda'.1)
        generalize upd H1 a0 (.lst ([V.bl (shR r0.2 r0).1, V.int (shR r0.2 r0).2].set 0 (V.bl true))) = H2 at y1 y2 y4 y5 y6 ⊢
        refine ⟨_, rfl, p, _, dx, _, _, rfl, y1, T.cls, T.noat _ (by decide +kernel), (by kernel_rfl : _ = some (V.int g.high)), _, rfl, _, _, rfl, rfl, _, rfl, p, _, dx, _, rfl, y1, T.cls, T.noat _ (by decide +kernel), by show 6 < 1000; decide, ?_⟩
        rw [fs_high]
        refine ⟨Nat.zero_le _, fun l' hl' => ⟨_, rfl, p, PC K, dx, _, rfl, (by rw [upd_ne (ne_of_none upd_same hl'), upd_same]), T.cls, T.noat _ (by decide +kernel), by show 6 < 1000; decide, ?_⟩⟩
        rw [fs_loose]
        have n1 : l' ≠ p := (ne_of_none upd_same hl').symm
        have n0 : H2 l' = none := by
          rw [upd_ne n1] at hl'
          exact hl'
        have n2 : q ≠ l' := ne_of_none y2 n0
        have n3 : q ≠ p := ins_ne_lst y1 y2
        have fin : ∀ u', (u' = V.non ∨ ∃ b, u' = .bl b) → On H0 (PC K) (upd (upd (upd H2 p (.ins (PC K) dx (fsOf L q l (g.high - r0.2) g.bar u))) l' (.lst [])) p (.ins (PC K) dx (fsOf L q l' (g.high - r0.2) g.bar u'))) p L g.goOver := fun u' hu' => by
          have er : ∀ {as rs}, Ents H2 as rs → Ents (upd (upd (upd H2 p (.ins (PC K) dx (fsOf L q l (g.high - r0.2) g.bar u))) l' (.lst [])) p (.ins (PC K) dx (fsOf L q l' (g.high - r0.2) g.bar u'))) as rs := fun h => Ents.far (Ents.same (Same.upd hl') (Ents.far h (ent_ins y1))) (ent_ins (by rw [upd_ne n1.symm, upd_same]))
          refine ⟨q, l', ds ++ ls, [], [], ⟨dx, u', ?_, hu', ?_, ?_, n2⟩, er (Paired.app y4 y6), .nil, .nil, ?_, ?_, ⟨ft.p0, ft.q0, Same.none y5 n0, ?_⟩⟩
          · show _ = some (HO.ins (PC K) dx (fsOf L q l' (g.high - g.shift) g.bar u'))
            rw [upd_same, esh]
          · rw [upd_ne n3, upd_ne n2, upd_ne n3, List.append_nil]
            exact y2
          · rw [upd_ne n1, upd_same] <;> rfl
          · rw [List.append_nil, List.append_nil]
            exact (List.nodup_append.mp nd).1
          · exact Same.upd' (Same.upd' (Same.upd' y5 ft.p0) (Same.none y5 n0)) ft.p0
          · intro a ha
            rw [List.append_nil, List.append_nil] at ha
            exact ft.as0 a (List.mem_append_left _ ha)
        refine ⟨_, rfl, p, PC K, dx, _, u, rfl, upd_same, T.cls, T.noat _ (by decide +kernel), by kernel_rfl, rfl, _, rfl, ite2 (fun c => ?_) (fun c => ?_)⟩
        · refine ⟨_, rfl, p, PC K, dx, _, rfl, upd_same, T.cls, T.noat _ (by decide +kernel), by show 6 < 1000; decide, ?_⟩
          rw [fs_unk, upd_upd]
          exact qq _ (fin _ (.inr ⟨_, rfl⟩))
        · exact qq _ (fin _ hu)
/-! ### begin -/
theorem scBegin : FnScope ["self"] ["self"] (defScope sBegin) := ⟨rfl, rfl, rfl, by decide +kernel, rfl, by decide +kernel, by decide +kernel⟩
theorem fn_begin (T : Tx K mg) : ∃ fd, FnOk P w K mg base CX0 2 (He.ma K (PC K) "begin") fd ["self"] (spTo K (fun _ => True) Pg.begin) ∧ Binds K fd ["self"] [] := by
  obtain ⟨fd, F⟩ := T.fnP (m := "begin") (q := "Page.begin") (st := sBegin) (List.mem_of_getElem? (i := 11) rfl)
  obtain ⟨f1, F1, b1⟩ := fn_stay (P := P) (w := w) (base := base) T
  refine ⟨fd, ok0 F scBegin (fun vs H Q E h => ?_) fun cdv A outer s H vs Q E hr h => ?_, FunD.bindsN F fun _ _ _ _ _ _ us hl => match us, hl with | [_], _ => rfl⟩
  · obtain ⟨p, H0, L, g, rfl, _⟩ := h
    rfl
  · obtain ⟨p, H0, L, g, rfl, on, _, qq⟩ := h
    refine ⟨_, pss_cons (ps_expr (pe_meth0 (pv 0) T.cls (T.meth "stay" (by decide +kernel)) F1 hr b1 .nil pass0)) (pss_cons (ps_fld (pv 0) pe_int rfl) (pss_one (ps_fld (pv 0) pe_bl rfl))), ?_⟩
    have on' := on
    obtain ⟨q, l, ds, ls, pa, ⟨dx, u, h1, hu, h3, h4, h5⟩, _⟩ := on'
    refine ⟨_, rfl, p, dx, _, rfl, h1, by kernel_rfl, p, H0, L, g, rfl, on, trivial, fun H1 on1 => ?_⟩
    obtain ⟨q, l, ds, ls, pa, ⟨dx, u, h1, hu, h3, h4, h5⟩, e1, e2, e3, nd, sm, ft⟩ := on1
    refine ⟨_, rfl, p, PC K, dx, _, rfl, h1, T.cls, T.noat _ (by decide +kernel), by show 6 < 1000; decide, ?_⟩
    rw [fs_high]
    refine ⟨_, rfl, p, PC K, dx, _, rfl, upd_same, T.cls, T.noat _ (by decide +kernel), by show 6 < 1000; decide, ?_⟩
    rw [fs_bar, upd_upd]
    have n3 : q ≠ p := ins_ne_lst h1 h3
    have n4 : l ≠ p := ins_ne_lst h1 h4
    refine qq _ ⟨q, l, ds, ls, pa, ⟨dx, u, upd_same, hu, by rw [upd_ne n3]; exact h3, by rw [upd_ne n4]; exact h4, h5⟩, e1.far (ent_ins h1), e2.far (ent_ins h1), e3.far (ent_ins h1), nd, Same.upd' sm ft.p0, ft⟩
end
end K32

set_option Elab.async false
set_option linter.all false
set_option maxRecDepth 100000
set_option maxHeartbeats 4000000
namespace K32
open PySem PySem.Spec PyProof.Rows L2
/-! ### line -/
def Pg.size (g : Pg) : Nat := g.done.length + g.lo.length
theorem size_stay (g : Pg) : g.stay.size = g.size := by simp [Pg.size, Pg.stay]
theorem len_setTrue : ∀ l : List Rw, (setTrue l).length = l.length
  | [] => rfl
  | _ :: _ => rfl
theorem size_go (g : Pg) : g.goOver.size = g.size := by
  have e : g.goneLo.length = g.lo.length := by
    unfold Pg.goneLo
    split
    · simp
    · rw [len_setTrue]
      simp
  simp [Pg.size, Pg.goOver, e]
theorem size_put (L : Nat) (g : Pg) (sp : Int) (ba : Bool) : (g.put L sp ba).size = g.size + 1 := by
  have e := size_stay g
  unfold Pg.put
  unfold Pg.size at *
  have e2 : g.stay.lo = [] := rfl
  rw [e2] at e
  split
  · simp at e ⊢
    rw [e2]
    simp
    omega
  · split
    · simp at e ⊢
      omega
    · split
      · simp
        omega
      · simp
        omega
theorem size_line (L : Nat) (g : Pg) (sp : Int) (ba : Bool) : (g.line L sp ba).size = g.size + 1 := by
  unfold Pg.line
  rw [size_put]
  split
  · rw [size_go]
  · rfl
def entD (r : Rw) : PyData := .list [.bool r.1, .int r.2]
theorem dp_ents {K : PySem.W.Frag} {H : Hp} : ∀ {as : List Addr} {rs : List Rw}, Ents H as rs → DpAll K H (as.map V.ref) (rs.map entD)
  | _, _, .nil => .nil
  | _, _, .cons h t => .cons (.lst (SqL.of h) (.cons (.bl _) (.cons (.int _) .nil))) (dp_ents t)
theorem entD_lay (r : Rw) : (entD r).canLay0 = true := by simp [entD, PyData.canLay0, PyData.canLayAll0]
theorem entD_depth (r : Rw) : (entD r).depth = 1 := by simp [entD, PyData.depth, PyData.depthAll]
theorem entDs_lay : ∀ rs : List Rw, PyData.canLayAll0 (rs.map entD) = true
  | [] => by simp [PyData.canLayAll0]
  | r :: rs => by simp [PyData.canLayAll0, entD_lay r, entDs_lay rs]
theorem entDs_depth : ∀ rs : List Rw, PyData.depthAll (rs.map entD) ≤ 1
  | [] => by simp [PyData.depthAll]
  | r :: rs => by
    have h1 := entDs_depth rs
    have h2 := entD_depth r
    simp only [List.map_cons, PyData.depthAll]
    omega
theorem entDs_shaped (rs : List Rw) : SeqAt.shaped (.list (rs.map entD)) = true := shaped_of (by simp only [PyData.canLay0]; exact entDs_lay rs) (by
  have h := entDs_depth rs
  simp only [PyData.depth]
  omega)
theorem eqv_nil (rs : List Rw) : PyData.eqv (.list (rs.map entD)) (.list []) = rs.isEmpty := by cases rs <;> simp [PyData.eqv, PyData.eqvAll]
theorem loose_is (g : Pg) : (!(phs g.ph ++ g.lo).isEmpty) = g.isLoose := by
  obtain ⟨dn, ph, lo, hi, ba⟩ := g
  cases ph <;> rfl
theorem not_loose {g : Pg} (h : ¬ g.isLoose = true) : g.ph = none ∧ g.lo = [] := by
  obtain ⟨dn, ph, lo, hi, ba⟩ := g
  cases ph with
  | some r => exact absurd rfl h
  | none =>
    cases lo with
    | nil => exact ⟨rfl, rfl⟩
    | cons r lo => exact absurd rfl h
theorem scLine : FnScope ["self", "space", "is_barred", "row", "entry"] ["self", "space", "is_barred"] (defScope sLine) := ⟨rfl, rfl, rfl, by decide +kernel, rfl, by decide +kernel, by decide +kernel⟩
def spLine (K : PySem.W.Frag) : Sp := fun vs H Q _ => ∃ (p : Addr) (H0 : Hp) (L : Nat) (g : Pg) (sp : Int) (ba : Bool), vs = [.ref p, .int sp, .bl ba] ∧ On H0 (PC K) H p L g ∧ g.size < 10000 ∧ ∀ H', On H0 (PC K) H' p L (g.line L sp ba) → Q .non H'
/-- a page that has its new entry yet to be put: xs, what is put so far -/
def MidOn (H0 : Hp) (C : Addr) (H : Hp) (p : Addr) (L : Nat) (e : Addr) (r : Rw) (g : Pg) : Prop := ∃ (hi : Int) (q l : Addr) (xs ds ls pa : List Addr), PgAt C H p L hi g.bar q l xs (pa ++ ls) ∧ xs ++ [e] = ds ++ ls ∧ Ents H ds g.done ∧ Ents H ls g.lo ∧ Ents H pa (phs g.ph) ∧
  (ds ++ ls ++ pa).Nodup ∧ Same H0 H ∧ Foot H0 p q l (ds ++ ls ++ pa) ∧ Ent H e r ∧ g.high = r.2 + 1 ∧ g.size < 20000
section
variable {P : Program} {w : World} {K : PySem.W.Frag} {mg : Str → Option Value} {base : Heap}
theorem fn_line (T : Tx K mg) : ∃ fd, FnOk P w K mg base CX0 2 (He.ma K (PC K) "line") fd ["self", "space", "is_barred"] (spLine K) ∧ Binds K fd ["self", "space", "is_barred"] [] := by
  obtain ⟨fd, F⟩ := T.fnP (m := "line") (q := "Page.line") (st := sLine) (List.mem_of_getElem? (i := 10) rfl)
  obtain ⟨f1, F1, b1⟩ := fn_stay (P := P) (w := w) (base := base) T
  obtain ⟨f2, F2, b2⟩ := fn_go (P := P) (w := w) (base := base) T
  refine ⟨fd, ok0 F scLine (fun vs H Q E h => ?_) fun cdv A outer s H vs Q E hr h => ?_, FunD.bindsN F fun _ _ _ _ _ _ us hl => match us, hl with | [_, _, _], _ => rfl⟩
  · obtain ⟨p, H0, L, g, sp, ba, rfl, _⟩ := h
    rfl
  · obtain ⟨p, H0, L, g, sp, ba, rfl, on, hsz, qq⟩ := h
    have snd := scLine.nd
    refine ⟨_, Evl.pss_cut (ps_if (PW.pt (pw_and (pt_cmpR op_gt (pe_fld (pv 0) rfl) pe_int (nomark _)) (pw_and (pt_cmpR op_ge (pe_op op_add (pe_fld (pv 0) rfl) (pv 1)) (pe_fld (pv 0) rfl) (nomark _)) (pw_and (pt_val (pv 2)) (pw_and1 (pt_cmpR (op_neD hr.units) (pe_fld (pv 0) rfl) (pe_lst pa_nil) (nomark _)))))))
        (pss_one (ps_expr (pe_meth0 (pv 0) T.cls (T.meth "go_over" (by decide +kernel)) F2 hr b2 .nil pass0))) pss_nil)
      (pss_cons (ps_set (i := 3) snd rfl (.inl rfl) (pe_op op_add (pe_fld (pv 0) rfl) (pv 1)))
      (Evl.pss_cut (ps_if (PW.pt (pw_or (pt_cmpR op_eq (pe_fld (pv 0) rfl) pe_int (nomark _)) (pw_or1 (pt_cmpR op_ge (pv 3) (pe_fld (pv 0) rfl) (nomark _)))))
          (pss_cons (ps_expr (pe_meth0 (pv 0) T.cls (T.meth "stay" (by decide +kernel)) F1 hr b1 .nil pass0)) (pss_one (ps_set (i := 4) snd rfl (.inl rfl) (pe_lst (pa_cons pe_bl (pa_cons pe_int pa_nil))))))
          (pss_cons (ps_set (i := 4) snd rfl (.inl rfl) (pe_lst (pa_cons pe_bl (pa_cons (pv 3) pa_nil))))
            (pss_one (ps_if (pt_not (pt_val (pv 2))) (pss_cons (ps_expr (pe_meth0 (pv 0) T.cls (T.meth "stay" (by decide +kernel)) F1 hr b1 .nil pass0)) (pss_one (ps_fld (pv 0) (pe_lst (pa_cons (pv 4) pa_nil)) rfl)))
              (pss_one (ps_if (pt_cmpR (op_neD hr.units) (pe_fld (pv 0) rfl) (pe_lst pa_nil) (nomark _)) (pss_one (ps_fld (pv 0) (pe_op op_cat (pe_fld (pv 0) rfl) (pe_lst (pa_cons (pv 4) pa_nil))) rfl)) pss_nil))))))
        (pss_cons (ps_fld (pv 0) (pe_op op_add (pe_ix ix_list (pv 4) pe_int (fun _ _ => rfl)) pe_int) rfl)
        (pss_one (ps_app (pe_fld (pv 0) rfl) (pv 4)))))), ?_⟩
    refine ⟨fun σ' H' => σ' = [some (.ref p), some (.int sp), some (.bl ba), none, none] ∧ On H0 (PC K) H' p L (if g.over L sp ba = true then g.goOver else g), ?_, ?_⟩
    · have on0 := on
      obtain ⟨q, l, ds, ls, pa, ⟨dx, u, h1, hu, h3, h4, h5⟩, e1, e2, e3, nd, sm, ft⟩ := on0
      have stop : ∀ H', On H0 (PC K) H' p L g → g.over L sp ba = false → On H0 (PC K) H' p L (if g.over L sp ba = true then g.goOver else g) := fun H' o z => by
        rw [if_neg (by rw [z]; decide)]
        exact o
      refine ⟨_, rfl, p, _, dx, _, _, rfl, h1, T.cls, T.noat _ (by decide +kernel), (by kernel_rfl : _ = some (V.int g.high)), _, _, rfl, rfl, _, rfl, ite2 (fun c1 => ?_) (fun c1 => iteF ⟨rfl, stop _ on ?_⟩)⟩
      · refine ⟨_, rfl, p, _, dx, _, _, rfl, h1, T.cls, T.noat _ (by decide +kernel), (by kernel_rfl : _ = some (V.int g.high)), _, rfl, _, _, rfl, rfl, _, rfl, p, _, dx, _, _, rfl, h1, T.cls, T.noat _ (by decide +kernel), (by kernel_rfl : _ = some (V.int L)), _, _, rfl, rfl, _, rfl, ite2 (fun c2 => ?_) (fun c2 => iteF ⟨rfl, stop _ on ?_⟩)⟩
        · refine ⟨_, rfl, ba, rfl, ite2 (fun c3 => ?_) (fun c3 => iteF ⟨rfl, stop _ on ?_⟩)⟩
          · refine ⟨_, rfl, p, _, dx, _, _, rfl, h1, T.cls, T.noat _ (by decide +kernel), (by kernel_rfl : _ = some (V.ref l)), Nat.zero_le _, fun t ht => ?_⟩
            have st := Same.upd (o := HO.lst []) ht
            refine ⟨_, _, .lst (SqL.of (st _ _ h4)) (dp_ents (Ents.same st (Paired.app e3 e2))), .lst (SqL.of upd_same) .nil, entDs_shaped _, entDs_shaped [], _, rfl, ?_⟩
            rw [eqv_nil, loose_is]
            have ov : g.over L sp ba = g.isLoose := by
              unfold Pg.over
              rw [c1, c2, c3, Bool.true_and, Bool.true_and, Bool.true_and]
            refine ite2 (fun c4 => ?_) (fun c4 => ⟨rfl, stop _ (on.same st) (by rw [ov]; exact Bool.eq_false_iff.mpr c4)⟩)
            refine ⟨_, rfl, p, dx, _, rfl, st _ _ h1, by kernel_rfl, p, H0, L, g, rfl, on.same st, c4, fun H' on' => ⟨rfl, ?_⟩⟩
            rw [if_pos (by rw [ov]; exact c4)]
            exact on'
          · unfold Pg.over
            rw [Bool.eq_false_iff.mpr c3, Bool.and_false, Bool.false_and]
        · unfold Pg.over
          rw [Bool.eq_false_iff.mpr c2, Bool.and_false, Bool.false_and, Bool.false_and]
      · unfold Pg.over
        rw [Bool.eq_false_iff.mpr c1, Bool.false_and, Bool.false_and, Bool.false_and]
    · rintro σ1 H1 ⟨rfl, on1⟩
      have hsz : (if g.over L sp ba = true then g.goOver else g).size < 10000 := by
        split
        · rw [size_go]
          exact hsz
        · exact hsz
      have qq : ∀ H', On H0 (PC K) H' p L ((if g.over L sp ba = true then g.goOver else g).put L sp ba) → Q .non H' := qq
      generalize (if g.over L sp ba = true then g.goOver else g) = g at on1 hsz qq
      have on2 := on1
      obtain ⟨q, l, ds, ls, pa, ⟨dx, u, h1, hu, h3, h4, h5⟩, e1, e2, e3, nd, sm, ft⟩ := on2
      refine ⟨_, rfl, p, _, dx, _, _, rfl, h1, T.cls, T.noat _ (by decide +kernel), (by kernel_rfl : _ = some (V.int g.high)), _, rfl, _, _, rfl, rfl, ?_⟩
      refine ⟨fun σ' H' => ∃ e r, σ' = [some (.ref p), some (.int sp), some (.bl ba), some (.int (g.high + sp)), some (.ref e)] ∧ MidOn H0 (PC K) H' p L e r (g.put L sp ba), ?_, ?_⟩
      · refine ⟨_, rfl, p, _, dx, _, _, rfl, h1, T.cls, T.noat _ (by decide +kernel), (by kernel_rfl : _ = some (V.int g.high)), rfl, _, rfl, ?_⟩
        have szp : (g.put L sp ba).size < 20000 := by
          rw [size_put]
          omega
        have nom : ∀ {H' : Hp} {as : List Addr} {rs : List Rw} {e : Addr}, Ents H' as rs → H' e = none → e ∉ as := fun k n hm => by
          obtain ⟨i, hi, e1⟩ := List.mem_iff_getElem.mp hm
          obtain ⟨y, _, z⟩ := Paired.at1 k (show _ = some _ by rw [List.getElem?_eq_getElem hi, e1])
          have z' : _ = some _ := z
          rw [n] at z'
          cases z'
        refine ite2 (fun c1 => iteT ?a1) (fun c1 => ⟨_, rfl, _, rfl, p, _, dx, _, _, rfl, h1, T.cls, T.noat _ (by decide +kernel), (by kernel_rfl : _ = some (V.int L)), _, _, rfl, rfl, _, rfl, ite2 (fun c2 => ?a2) (fun c2 => ?a3)⟩)
        case' a1 =>
          have c : g.high = 0 ∨ (L : Int) ≤ g.high + sp := .inl (V.int.inj (of_decide_eq_true c1))
        case' a2 =>
          have c : g.high = 0 ∨ (L : Int) ≤ g.high + sp := .inr (of_decide_eq_true c2)
        case a3 =>
          have c : ¬ (g.high = 0 ∨ (L : Int) ≤ g.high + sp) := fun z => z.elim (fun z => c1 (by rw [z]; exact decide_eq_true rfl)) fun z => c2 (decide_eq_true z)
          refine ⟨_, rfl, by show 2 ≤ sizeLine; decide, fun e he => ⟨_, rfl, ba, rfl, ?_⟩⟩
          have se := Same.upd (o := HO.lst [.bl false, .int (g.high + sp)]) he
          cases ba with
          | false =>
            have tp : (g.put L sp false) = { g.stay with lo := [(false, g.high + sp)], high := g.high + sp + 1 } := by
              unfold Pg.put
              rw [if_neg c, if_pos rfl]
            refine iteT ⟨_, rfl, p, dx, _, rfl, se _ _ h1, by kernel_rfl, p, _, L, g, rfl, on1.more he, trivial, fun H2 on2 => ?_⟩
            obtain ⟨q, l, ds, ls, pa, ⟨dx, u, h1, hu, h3, h4, h5⟩, e1, e2, e3, nd, sm2, ft2⟩ := on2
            have he2 := sm2 e _ upd_same
            have off : ∀ {a}, (upd H0 e (HO.lst [.bl false, .int (g.high + sp)])) a = none → a ≠ e ∧ H0 a = none := fun {a} z => by
              by_cases y : a = e
              · rw [y, upd_same] at z
                cases z
              · rw [upd_ne y] at z
                exact ⟨y, z⟩
            cases e2
            cases e3
            rw [List.append_nil] at h3
            refine ⟨_, rfl, by show 1 ≤ sizeLine; decide, fun l' hl' => ⟨_, rfl, p, PC K, dx, _, rfl, (by rw [upd_ne (ne_of_none h1 hl')]; exact h1), T.cls, T.noat _ (by decide +kernel), by show 6 < 1000; decide, ?_⟩⟩
            rw [fs_loose]
            have n1 : l' ≠ p := (ne_of_none h1 hl').symm
            have n2 : q ≠ l' := ne_of_none h3 hl'
            have n3 : q ≠ p := ins_ne_lst h1 h3
            have n4 : e ≠ p := ins_ne_lst h1 he2
            have s1 := Same.upd (o := HO.lst [.ref e]) hl'
            have smm : Same H0 H2 := (Same.upd (Same.none sm he)).trans sm2
            have H0e := Same.none sm he
            rw [tp]
            refine ⟨e, (false, g.high + sp), rfl, g.stay.high, q, l', ds, ds, [e], [], ⟨dx, u, upd_same, hu, ?_, ?_, n2⟩, rfl, Ents.far (Ents.same s1 e1) (ent_ins (s1 _ _ h1)), .cons ?_ .nil, .nil, ?_, Same.upd' (smm.trans s1) (off ft2.p0).2, ⟨(off ft2.p0).2, (off ft2.q0).2, Same.none smm hl', ?_⟩, ?_, rfl, ?_⟩
            · rw [upd_ne n3]
              exact s1 _ _ h3
            · rw [upd_ne n1, upd_same] <;> rfl
            · show upd _ p _ e = _
              rw [upd_ne n4]
              exact s1 _ _ he2
            · rw [List.append_nil]
              rw [List.append_nil, List.append_nil] at nd
              exact List.nodup_append.mpr ⟨nd, by simp, fun a ha b hb z => by
                rw [List.mem_singleton.mp hb] at z
                exact (off (ft2.as0 a (by simpa using ha))).1 z⟩
            · intro a ha
              rw [List.append_nil] at ha
              rcases List.mem_append.mp ha with z | z
              · exact (off (ft2.as0 a (by simpa using z))).2
              · rw [List.mem_singleton.mp z]
                exact H0e
            · show upd _ p _ e = _
              rw [upd_ne n4]
              exact s1 _ _ he2
            · have z := szp
              rw [tp] at z
              exact z
          | true =>
            have t2 : (g.put L sp true) = if g.isLoose = true then { g with lo := g.lo ++ [(false, g.high + sp)], high := g.high + sp + 1 } else { g with done := g.done ++ [(false, g.high + sp)], high := g.high + sp + 1 } := by
              unfold Pg.put
              rw [if_neg c, if_neg (by decide)]
            have d1 := nom e1 he
            have d2 := nom e2 he
            have d3 := nom e3 he
            have H0e := Same.none sm he
            refine iteF ⟨_, rfl, p, _, dx, _, _, rfl, se _ _ h1, T.cls, T.noat _ (by decide +kernel), (by kernel_rfl : _ = some (V.ref l)), Nat.zero_le _, fun t ht => ?_⟩
            have st := se.trans (Same.upd (o := HO.lst []) ht)
            refine ⟨_, _, .lst (SqL.of (st _ _ h4)) (dp_ents (Ents.same st (Paired.app e3 e2))), .lst (SqL.of upd_same) .nil, entDs_shaped _, entDs_shaped [], _, rfl, ?_⟩
            rw [eqv_nil, loose_is]
            have he2 : (upd (upd H1 e (HO.lst [.bl false, .int (g.high + sp)])) t (HO.lst [])) e = some (HO.lst [.bl false, .int (g.high + sp)]) := Same.upd ht _ _ upd_same
            have szp' := szp
            rw [t2] at szp' ⊢
            refine ite2 (fun c4 => ?_) (fun c4 => ?_)
            · rw [if_pos c4] at szp' ⊢
              refine ⟨_, rfl, p, _, dx, _, _, rfl, st _ _ h1, T.cls, T.noat _ (by decide +kernel), (by kernel_rfl : _ = some (V.ref l)), _, rfl, by show 1 ≤ sizeLine; decide, fun t2 ht2 => ?_⟩
              have st2 := st.trans (Same.upd (o := HO.lst [.ref e]) ht2)
              have he3 := Same.upd (o := HO.lst [.ref e]) ht2 _ _ he2
              refine ⟨l, t2, _, _, rfl, rfl, st2 _ _ h4, upd_same, ?_, fun l' hl' => ?_⟩
              · have z := Paired.length e3
                have z2 := Paired.length e2
                have z3 : (phs g.ph).length ≤ 1 := by cases g.ph <;> simp [phs]
                rw [List.length_map, List.length_append, sizeLine_eq]
                unfold Pg.size at hsz
                show _ + 1 ≤ _
                omega
              have s1 := Same.upd (o := HO.lst ((pa ++ ls).map V.ref ++ [.ref e])) hl'
              have st3 := st2.trans s1
              have he4 := s1 _ _ he3
              refine ⟨_, rfl, p, PC K, dx, _, rfl, st3 _ _ h1, T.cls, T.noat _ (by decide +kernel), by show 6 < 1000; decide, ?_⟩
              rw [fs_loose]
              have n1 : l' ≠ p := (ne_of_none (st2 _ _ h1) hl').symm
              have n2 : q ≠ l' := ne_of_none (st2 _ _ h3) hl'
              have n3 : q ≠ p := ins_ne_lst h1 h3
              have n4 : e ≠ p := ins_ne_lst (st3 _ _ h1) he4
              refine ⟨e, (false, g.high + sp), rfl, g.high, q, l', ds ++ ls, ds, ls ++ [e], pa, ⟨dx, u, upd_same, hu, ?_, ?_, n2⟩, ?_, Ents.far (Ents.same st3 e1) (ent_ins (st3 _ _ h1)), Paired.snoc (Ents.far (Ents.same st3 e2) (ent_ins (st3 _ _ h1))) ?_, Ents.far (Ents.same st3 e3) (ent_ins (st3 _ _ h1)), ?_, Same.upd' (sm.trans st3) ft.p0, ⟨ft.p0, ft.q0, Same.none (sm.trans st2) hl', ?_⟩, ?_, rfl, szp'⟩
              · rw [upd_ne n3]
                exact st3 _ _ h3
              · rw [upd_ne n1, upd_same]
                simp
              · rw [List.append_assoc]
              · show upd _ p _ e = _
                rw [upd_ne n4]
                exact he4
              · rw [← List.append_assoc]
                have pm : (ds ++ ls ++ [e] ++ pa).Perm (e :: (ds ++ ls ++ pa)) := by
                  rw [List.append_assoc (ds ++ ls)]
                  exact List.perm_middle
                refine pm.nodup_iff.mpr (List.nodup_cons.mpr ⟨fun z => ?_, nd⟩)
                rcases List.mem_append.mp z with z | z
                · rcases List.mem_append.mp z with z | z
                  · exact d1 z
                  · exact d2 z
                · exact d3 z
              · intro a ha
                rw [← List.append_assoc] at ha
                rcases List.mem_append.mp ha with z | z
                · rcases List.mem_append.mp z with z | z
                  · exact ft.as0 a (List.mem_append_left _ z)
                  · rw [List.mem_singleton.mp z]
                    exact H0e
                · exact ft.as0 a (List.mem_append_right _ z)
              · show upd _ p _ e = _
                rw [upd_ne n4]
                exact he4
            · rw [if_neg c4] at szp' ⊢
              obtain ⟨gph, glo⟩ := not_loose c4
              rw [glo] at e2
              rw [gph] at e3
              cases e2
              cases e3
              rw [List.append_nil] at h3
              refine ⟨e, (false, g.high + sp), rfl, g.high, q, l, ds, ds ++ [e], [], [], ⟨dx, u, st _ _ h1, hu, st _ _ h3, st _ _ h4, h5⟩, by rw [List.append_nil], Paired.snoc (Ents.same st e1) he2, ?_, ?_, ?_, sm.trans st, ⟨ft.p0, ft.q0, ft.l0, ?_⟩, he2, rfl, szp'⟩
              · show Ents _ [] g.lo
                rw [glo]
                exact .nil
              · show Ents _ [] (phs g.ph)
                rw [gph]
                exact .nil
              · rw [List.append_nil, List.append_nil]
                rw [List.append_nil, List.append_nil] at nd
                exact List.nodup_append.mpr ⟨nd, by simp, fun a ha b hb z => by
                  rw [List.mem_singleton.mp hb] at z
                  rw [z] at ha
                  exact d1 ha⟩
              · intro a ha
                rw [List.append_nil, List.append_nil] at ha
                rcases List.mem_append.mp ha with z | z
                · exact ft.as0 a (by simpa using z)
                · rw [List.mem_singleton.mp z]
                  exact H0e
        all_goals
          have tp : (g.put L sp ba) = { g.stay with done := g.stay.done ++ [(true, 0)], high := 1 } := if_pos c
          refine ⟨_, rfl, p, dx, _, rfl, h1, by kernel_rfl, p, H0, L, g, rfl, on1, trivial, fun H2 on2 => ?_⟩
          obtain ⟨q, l, ds, ls, pa, ⟨dx, u, h1, hu, h3, h4, h5⟩, e1, e2, e3, nd, sm, ft⟩ := on2
          cases e2
          cases e3
          rw [List.append_nil] at h3
          refine ⟨by show 2 ≤ sizeLine; decide, fun e he => ?_⟩
          have se := Same.upd (o := HO.lst [.bl true, .int 0]) he
          have d1 := nom e1 he
          rw [tp] at szp ⊢
          refine ⟨e, (true, 0), rfl, g.stay.high, q, l, ds, ds ++ [e], [], [], ⟨dx, u, se _ _ h1, hu, se _ _ h3, se _ _ h4, h5⟩, by rw [List.append_nil], Paired.snoc (Ents.same se e1) upd_same, .nil, .nil, ?_, sm.trans se, ⟨ft.p0, ft.q0, ft.l0, ?_⟩, upd_same, rfl, szp⟩
          · rw [List.append_nil, List.append_nil]
            rw [List.append_nil, List.append_nil] at nd
            exact List.nodup_append.mpr ⟨nd, by simp, fun a ha b hb z => by
              rw [List.mem_singleton.mp hb] at z
              rw [z] at ha
              exact d1 ha⟩
          · intro a ha
            rw [List.append_nil, List.append_nil] at ha
            rcases List.mem_append.mp ha with z | z
            · exact ft.as0 a (by simpa using z)
            · rw [List.mem_singleton.mp z]
              exact Same.none sm he
      · rintro σ2 H2 ⟨e, r, rfl, hi, q, l, xs, ds, ls, pa, ⟨dx, u, h1, hu, h3, h4, h5⟩, exs, e1, e2, e3, nd, sm, ft, he, ehi, esz⟩
        refine ⟨_, rfl, e, _, 1, _, rfl, rfl, SqL.of he, rfl, _, _, rfl, rfl, _, rfl, p, _, dx, _, rfl, h1, T.cls, T.noat _ (by decide +kernel), by show 6 < 1000; decide, ?_⟩
        rw [fs_high, ← ehi]
        have n3 : q ≠ p := ins_ne_lst h1 h3
        have n4 : l ≠ p := ins_ne_lst h1 h4
        have h3' := h3
        rw [← upd_ne (H := H2) (o := HO.ins (PC K) dx (fsOf L q l (g.put L sp ba).high (g.put L sp ba).bar u)) n3] at h3'
        have hlen : xs.length + 1 = (g.put L sp ba).size := by
          have z := congrArg List.length exs
          rw [List.length_append, List.length_append, Paired.length e1, Paired.length e2] at z
          exact z
        refine ⟨_, rfl, p, _, dx, _, _, rfl, upd_same, T.cls, T.noat _ (by decide +kernel), (by kernel_rfl : _ = some (V.ref q)), ty_list h3', _, rfl, q, _, _, rfl, rfl, h3', Evl.sz_lt (by rw [List.length_map]; omega), ?_⟩
        refine qq _ ⟨q, l, ds, ls, pa, ⟨dx, u, ?_, hu, ?_, ?_, h5⟩, ?_, ?_, ?_, nd, ?_, ft⟩
        · rw [upd_ne n3.symm, upd_same]
        · rw [upd_same, ← exs, List.map_append] <;> rfl
        · rw [upd_ne h5.symm, upd_ne n4]
          exact h4
        · exact (e1.far (ent_ins h1)).far (ent_refs h3')
        · exact (e2.far (ent_ins h1)).far (ent_refs h3')
        · exact (e3.far (ent_ins h1)).far (ent_refs h3')
        · exact Same.upd' (Same.upd' sm ft.p0) ft.q0
end
end K32

set_option Elab.async false
set_option linter.all false
set_option maxRecDepth 100000
set_option maxHeartbeats 4000000
namespace K32
open PySem PySem.Spec PyProof.Rows L2
/-! ### block -/
theorem size_begin (g : Pg) : g.begin.size = g.size := by
  show (g.done ++ g.lo).length + 0 = _
  rw [List.length_append] <;> rfl
theorem lines_succ (L n : Nat) (sp : Int) (g : Pg) (m : Nat) : g.lines L n sp (m + 1) = (g.lines L n sp m).lineAt L n sp m := by
  unfold Pg.lines
  rw [List.range_succ, List.foldl_append] <;> rfl
theorem size_lineAt (L n : Nat) (sp : Int) (g : Pg) (k : Nat) : (g.lineAt L n sp k).size = g.size + 1 := by
  unfold Pg.lineAt
  split <;> rw [size_line]
theorem size_lines (L n : Nat) (sp : Int) (g : Pg) : ∀ m : Nat, (g.lines L n sp m).size = g.size + m
  | 0 => rfl
  | m + 1 => by
    rw [lines_succ, size_lineAt, size_lines L n sp g m]
    omega
theorem size_block (L : Nat) (g : Pg) (b : Blk) : (g.block L b).size = g.size + b.1 := by
  have h : ∀ (g : Pg) (n : Nat) (ke : Bool), (g.close n ke).size = g.size := fun g n ke => by
    unfold Pg.close
    split
    · split
      · rfl
      · rw [size_stay] <;> rfl
    · rfl
  unfold Pg.block
  rw [h, size_lines]
  split
  · rw [size_begin]
  · rfl
def spBlock (K : PySem.W.Frag) : Sp := fun vs H Q _ => ∃ (p : Addr) (H0 : Hp) (L : Nat) (g : Pg) (b : Blk), vs = [.ref p, .int b.1, .int b.2.1, .bl b.2.2.1, .bl b.2.2.2] ∧ On H0 (PC K) H p L g ∧ g.size + b.1 < 10000 ∧ ∀ H', On H0 (PC K) H' p L (g.block L b) → Q .non H'
theorem scBlock : FnScope ["self", "count", "space", "kept", "page", "place"] ["self", "count", "space", "kept", "page"] (defScope sBlock) := ⟨rfl, rfl, rfl, by decide +kernel, rfl, by decide +kernel, by decide +kernel⟩
section
variable {P : Program} {w : World} {K : PySem.W.Frag} {mg : Str → Option Value} {base : Heap}
theorem fn_block (T : Tx K mg) : ∃ fd, FnOk P w K mg base CX0 3 (He.ma K (PC K) "block") fd ["self", "count", "space", "kept", "page"] (spBlock K) ∧ ∃ g, KBn K fd ["self", "count", "space", "kept", "page"] 2 ["space", "kept", "page"] g (fun vs zs => vs ++ zs) := by
  obtain ⟨fd, F⟩ : ∃ fd, FunD K "block" "Page.block" (defArgs sBlock) (defBody sBlock) (defScope sBlock) [] [("space", .int 0), ("kept", .bl false), ("page", .bl false)] (He.ma K (PC K) "block") fd := T.def_ dBlock (List.mem_of_getElem? (i := 12) rfl)
  obtain ⟨f1, F1, b1⟩ := fn_stay (P := P) (w := w) (base := base) T
  obtain ⟨f2, F2, b2⟩ := fn_begin (P := P) (w := w) (base := base) T
  obtain ⟨f3, F3, b3⟩ := fn_line (P := P) (w := w) (base := base) T
  obtain ⟨mv, hkb⟩ := FunD.kbinds0 (ps := ["self", "count", "space", "kept", "page"]) F 2 ["space", "kept", "page"] [] (fun us mv ws => us ++ ws) (by intro z; cases z) (fun q hq => nomatch hq) (fun r1 _ r3 => r1.append r3)
    (fun D doc pm an cdv ct us mv ws l1 l2 l3 => match us, l1, ws, l3 with | [_, _], _, [_, _, _], _ => by rfl)
  refine ⟨fd, F.ok scBlock (fun vs H Q E h => ?_) fun cdv A outer s H vs Q E hr h => ?_, _, hkb⟩
  · obtain ⟨p, H0, L, g, b, rfl, _⟩ := h
    rfl
  · obtain ⟨p, H0, L, g, ⟨n, sp, ke, pg⟩, rfl, on, hsz, qq⟩ := h
    have snd := scBlock.nd
    suffices h : ∃ t, PSs (cxOf CX0 P w K mg base ["self", "count", "space", "kept", "page", "place"] "Page.block" (defScope sBlock) (He.ma K (PC K) "block") cdv A outer s H E).nox (defBody sBlock) t ∧ t { nx := fun _ H' => Q .non H', rt := Q } (L2.start ["self", "count", "space", "kept", "page", "place"] [.ref p, .int n, .int sp, .bl ke, .bl pg]) H by
      obtain ⟨t, h1, h2⟩ := h
      exact ⟨t, PSs.nox h1, h2⟩
    refine ⟨_, Evl.pss_cut (ps_if (pt_val (pv 4)) (pss_one (ps_expr (pe_meth0 (pv 0) T.cls (T.meth "begin" (by decide +kernel)) F2 hr b2 .nil pass0))) pss_nil)
      (pss_cons (ps_for PassesOwn.never rfl (pi_range1 (by rfl) (T.fre _ (by decide +kernel)) (pa_cons (pv 1) pa_nil)) (pg_name (i := 5) snd rfl (.inl rfl))
        (pss_one (ps_if (pt_cmpR op_eq (pv 5) pe_int (nomark _))
          (pss_one (ps_expr (pe_meth (pv 0) T.cls (T.meth "line" (by decide +kernel)) F3 hr b3 .nil pass0 (pa_cons (pv 2) (pa_cons (pe_fld (pv 0) rfl) pa_nil)))))
          (pss_one (ps_expr (pe_meth (pv 0) T.cls (T.meth "line" (by decide +kernel)) F3 hr b3 .nil pass0 (pa_cons pe_int (pa_cons (pe_cmpR op_in_seq (pv 5) (pe_tup (pa_cons pe_int (pa_cons (pe_op op_sub (pv 1) pe_int) pa_nil))) (by rfl)) pa_nil))))))))
      (pss_one (ps_if (pt_cmpR op_gt (pv 1) pe_int (nomark _)) (pss_cons (ps_fld (pv 0) (pv 3) rfl) (pss_one (ps_if (pt_not (pt_val (pv 3))) (pss_one (ps_expr (pe_meth0 (pv 0) T.cls (T.meth "stay" (by decide +kernel)) F1 (hr.mono (by decide)) b1 .nil pass0))) pss_nil))) pss_nil))), ?_⟩
    refine ⟨fun σ' H' => σ' = [some (.ref p), some (.int n), some (.int sp), some (.bl ke), some (.bl pg), none] ∧ On H0 (PC K) H' p L (if pg = true then g.begin else g), ?_, ?_⟩
    · have on0 := on
      obtain ⟨q, l, ds, ls, pa, ⟨dx, u, h1, hu, h3, h4, h5⟩, _⟩ := on0
      refine ⟨_, rfl, pg, rfl, ite2 (fun c => ?_) (fun c => ⟨rfl, by rw [if_neg c]; exact on⟩)⟩
      exact ⟨_, rfl, p, dx, _, rfl, h1, by kernel_rfl, p, H0, L, g, rfl, on, trivial, fun H' on' => ⟨rfl, by rw [if_pos c]; exact on'⟩⟩
    · rintro σ1 H1 ⟨rfl, on1⟩
      have hsz : (if pg = true then g.begin else g).size + n < 10000 := by
        split
        · rw [size_begin]
          exact hsz
        · exact hsz
      have qq : ∀ H', On H0 (PC K) H' p L (((if pg = true then g.begin else g).lines L n sp n).close n ke) → Q .non H' := qq
      generalize (if pg = true then g.begin else g) = g at on1 hsz qq
      refine ⟨_, rfl, (n : Int), rfl, by omega, by omega, for_range (lo := 0) (fun i σ H2 => ∃ vp, σ = [some (.ref p), some (.int n), some (.int sp), some (.bl ke), some (.bl pg), vp] ∧ On H0 (PC K) H2 p L (g.lines L n sp i)) ?_ ?_ ?_⟩
      · exact ⟨none, rfl, on1⟩
      · rintro i σ H2 hi ⟨vp, rfl, on2⟩
        have hi : i < n := by omega
        have on0 := on2
        obtain ⟨q, l, ds, ls, pa, ⟨dx, u, h1, hu, h3, h4, h5⟩, _⟩ := on0
        have sz := size_lines L n sp g i
        refine ⟨_, rfl, rfl, _, rfl, ite2 (fun c => ?_) (fun c => ?_)⟩
        · have c : i = 0 := by
            have := V.int.inj (of_decide_eq_true c)
            omega
          refine ⟨_, rfl, p, dx, _, rfl, h1, by kernel_rfl, _, rfl, _, rfl, p, _, dx, _, _, rfl, h1, T.cls, T.noat _ (by decide +kernel), (by kernel_rfl : _ = some (V.bl (g.lines L n sp i).bar)), p, H0, L, _, sp, _, rfl, on2, by omega, fun H3 on3 => ⟨_, rfl, ?_⟩⟩
          rw [lines_succ]
          unfold Pg.lineAt
          rw [if_pos c]
          exact on3
        · have c : i ≠ 0 := fun z => c (by rw [z]; exact decide_eq_true rfl)
          refine ⟨_, rfl, p, dx, _, rfl, h1, by kernel_rfl, _, rfl, _, rfl, _, _, rfl, rfl, by show 2 ≤ sizeLine; decide, fun t ht => ?_⟩
          have st := Same.upd (o := HO.tup [.int 1, .int ((n : Int) - 1)]) ht
          refine ⟨t, _, rfl, .inr (SqT.of upd_same), rfl, rfl, p, H0, L, _, 0, _, rfl, on2.same st, by omega, fun H3 on3 => ⟨_, rfl, ?_⟩⟩
          have ei : inV (.int (0 + (i : Int))) [.int 1, .int ((n : Int) - 1)] = (decide (i = 1) || decide (i + 1 = n)) := by
            show ((1 : Int) == 0 + (i : Int) || (((n : Int) - 1) == 0 + (i : Int) || false)) = _
            rw [Bool.or_false]
            have e1 : ((1 : Int) == 0 + (i : Int)) = decide (i = 1) := by
              rw [Bool.eq_iff_iff, beq_iff_eq, decide_eq_true_eq]
              omega
            have e2 : (((n : Int) - 1) == 0 + (i : Int)) = decide (i + 1 = n) := by
              rw [Bool.eq_iff_iff, beq_iff_eq, decide_eq_true_eq]
              omega
            rw [e1, e2]
          rw [lines_succ]
          unfold Pg.lineAt
          rw [if_neg c, ← ei]
          exact on3
      · rintro σ H2 ⟨vp, rfl, on2⟩
        have en : (n : Int).toNat = n := by omega
        rw [en] at on2
        have on0 := on2
        obtain ⟨q, l, ds, ls, pa, ⟨dx, u, h1, hu, h3, h4, h5⟩, e1, e2, e3, nd, sm, ft⟩ := on0
        refine ⟨_, rfl, _, _, rfl, rfl, _, rfl, ite2 (fun c => ?_) (fun c => ?_)⟩
        · have c : 0 < n := by
            have := of_decide_eq_true c
            omega
          have n3 : q ≠ p := ins_ne_lst h1 h3
          have n4 : l ≠ p := ins_ne_lst h1 h4
          refine ⟨_, rfl, _, rfl, p, PC K, dx, _, rfl, h1, T.cls, T.noat _ (by decide +kernel), by show 6 < 1000; decide, ?_⟩
          rw [fs_bar]
          have on3 : On H0 (PC K) (upd H2 p (.ins (PC K) dx (fsOf L q l (g.lines L n sp n).high ke u))) p L { (g.lines L n sp n) with bar := ke } :=
            ⟨q, l, ds, ls, pa, ⟨dx, u, upd_same, hu, by rw [upd_ne n3]; exact h3, by rw [upd_ne n4]; exact h4, h5⟩, e1.far (ent_ins h1), e2.far (ent_ins h1), e3.far (ent_ins h1), nd, Same.upd' sm ft.p0, ft⟩
          unfold Pg.close at qq
          rw [if_pos c] at qq
          cases ke with
          | true => exact ⟨_, rfl, true, rfl, iteF (qq _ on3)⟩
          | false => exact ⟨_, rfl, false, rfl, iteT ⟨_, rfl, p, dx, _, rfl, upd_same, by kernel_rfl, p, H0, L, _, rfl, on3, trivial, fun H4 on4 => qq _ on4⟩⟩
        · have c : ¬ 0 < n := fun z => c (decide_eq_true (by omega))
          unfold Pg.close at qq
          rw [if_neg c] at qq
          exact qq _ on2
end
end K32

set_option Elab.async false
set_option linter.all false
set_option maxRecDepth 100000
set_option maxHeartbeats 4000000
namespace K32
open PySem PySem.Spec PyProof.Rows L2
/-! ### finish, __init__, resumed -/
theorem RwAt.same {H H' : Hp} {v : V} {r : Rw} (e : Same H H') (h : RwAt H v r) : RwAt H' v r := TupAt.ext h e
theorem take_succ' {α : Type} {l : List α} {i : Nat} {a : α} (h : l[i]? = some a) : l.take (i + 1) = l.take i ++ [a] := by
  rw [List.take_add_one, h] <;> rfl
def spFin (K : PySem.W.Frag) : Sp := fun vs H Q _ => ∃ (p : Addr) (H0 : Hp) (L : Nat) (g : Pg), vs = [.ref p] ∧ On H0 (PC K) H p L g ∧ g.size < 10000 ∧ ∀ (H' : Hp) (D : Addr) (vs : List V), Same H0 H' → H' D = some (.lst vs) → Paired (RwAt H') vs g.finish → Q (.ref D) H'
theorem scFin : FnScope ["self", "starts", "row"] ["self"] (defScope sFinish) := ⟨rfl, rfl, rfl, by decide +kernel, rfl, by decide +kernel, by decide +kernel⟩
section
variable {P : Program} {w : World} {K : PySem.W.Frag} {mg : Str → Option Value} {base : Heap}
theorem fn_fin (T : Tx K mg) : ∃ fd, FnOk P w K mg base CX0 1 (He.ma K (PC K) "finish") fd ["self"] (spFin K) ∧ Binds K fd ["self"] [] := by
  obtain ⟨fd, F⟩ := T.fnP (m := "finish") (q := "Page.finish") (st := sFinish) (List.mem_of_getElem? (i := 13) rfl)
  refine ⟨fd, ok0 F scFin (fun vs H Q E h => ?_) fun cdv A outer s H vs Q E hr h => ?_, FunD.bindsN F fun _ _ _ _ _ _ us hl => match us, hl with | [_], _ => rfl⟩
  · obtain ⟨p, H0, L, g, rfl, _⟩ := h
    rfl
  · obtain ⟨p, H0, L, g, rfl, ⟨q, l, ds, ls, pa, ⟨dx, u, h1, hu, h3, h4, h5⟩, e1, e2, e3, nd, sm, ft⟩, hsz, qq⟩ := h
    have snd := scFin.nd
    refine ⟨_, pss_one (ps_ret (pe_lc (own := [("starts", 1), ("row", 2)]) (g := gUnl K 2 (gCons (gName 1) (gCons (gName 2) gNil))) (tt := tYes) rfl snd (pi_list (pe_fld (pv 0) rfl)) (blkOk_by (N := ["self", "starts", "row"]) (sc := defScope sFinish) (by decide +kernel))
      (fun _ _ _ _ _ => pg_unl rfl (pgs_cons (pg_name (i := 1) snd rfl (.inl rfl)) (pgs_cons (pg_name (i := 2) snd rfl (.inl rfl)) pgs_nil))) (fun _ _ _ _ _ => pts_nil) (fun _ _ _ _ _ => pe_tup (pa_cons (pv 1) (pa_cons (pv 2) pa_nil))))), ?_⟩
    have eA : Ents H (ds ++ ls) g.finish := Paired.app e1 e2
    refine ⟨_, rfl, p, _, dx, _, _, rfl, h1, T.cls, T.noat _ (by decide +kernel), (by kernel_rfl : _ = some (V.ref q)), q, rfl, ⟨_, SqL.of h3⟩, fun D hD => lc_list (xs := (ds ++ ls).map V.ref)
      (fun i H1 => Same H H1 ∧ ∃ acc, H1 D = some (.lst acc) ∧ Paired (RwAt H1) acc (g.finish.take i)) ?_ ?_ ?_ ?_⟩
    · exact ⟨Same.upd hD, [], upd_same, .nil⟩
    · rintro i H1 _ ⟨s1, _⟩
      exact SqL.of (s1 _ _ h3)
    · rintro i x H1 hx ⟨s1, acc, hacc, pacc⟩
      obtain ⟨a, ha, rfl⟩ : ∃ a, (ds ++ ls)[i]? = some a ∧ x = V.ref a := by
        rw [List.getElem?_map] at hx
        cases z : (ds ++ ls)[i]? with
        | none =>
          rw [z] at hx
          cases hx
        | some a =>
          rw [z] at hx
          cases hx
          exact ⟨a, rfl, rfl⟩
      obtain ⟨r, hr, er⟩ := Paired.at1 eA ha
      refine ⟨a, _, rfl, SqL.of (s1 _ _ er), rfl, _, _, rfl, _, _, rfl, rfl, rfl, _, rfl, _, rfl, by show 2 ≤ sizeLine; decide, fun t ht => ?_⟩
      have st := Same.upd (o := HO.tup [.bl r.1, .int r.2]) ht
      have nt : D ≠ t := ne_of_none hacc ht
      have k : ∀ b xs, H1 b = some (.tup xs) → (upd (upd H1 t (.tup [.bl r.1, .int r.2])) D (.lst (acc ++ [.ref t]))) b = some (.tup xs) := fun b xs h => by
        rw [upd_ne (fun z => by rw [z, hacc] at h; cases h)]
        exact st _ _ h
      have hl := Paired.length pacc
      rw [List.length_take] at hl
      have hf : g.finish.length = g.size := List.length_append
      refine ⟨acc, by rw [upd_ne nt]; exact hacc, Evl.sz_lt (by omega), Same.upd' (s1.trans st) hD, _, upd_same, ?_⟩
      rw [take_succ' hr]
      refine Paired.snoc (Paired.imp (fun v r' ⟨b, h1, h2⟩ => ⟨b, h1, k _ _ h2⟩) pacc) ⟨t, rfl, ?_⟩
      rw [upd_ne nt.symm, upd_same] <;> rfl
    · rintro H1 ⟨s1, acc, hacc, pacc⟩
      rw [List.take_of_length_le (by rw [List.length_map, Paired.length eA]; exact Nat.le_refl _)] at pacc
      exact qq _ D acc (sm.trans s1) hacc pacc
/-! __init__ -/
def spPIni (K : PySem.W.Frag) : Sp := fun vs H Q _ => ∃ (p dx : Addr) (H0 : Hp) (L : Nat), vs = [.ref p, .int L] ∧ H p = some (.ins (PC K) dx []) ∧ Same H0 H ∧ H0 p = none ∧ ∀ H', On H0 (PC K) H' p L Pg.new → Q .non H'
theorem scPIni : FnScope ["self", "length"] ["self", "length"] (defScope sPInit) := ⟨rfl, rfl, rfl, by decide +kernel, rfl, by decide +kernel, by decide +kernel⟩
theorem fi1 {L : V} : putF "length" L ([] : List (Str × V)) = ([("length", L)] : List (Str × V)) := by kernel_rfl
theorem fi2 {L q : V} : putF "put_lines" q ([("length", L)] : List (Str × V)) = ([("length", L), ("put_lines", q)] : List (Str × V)) := by kernel_rfl
theorem fi3 {L q l : V} : putF "loose" l ([("length", L), ("put_lines", q)] : List (Str × V)) = ([("length", L), ("put_lines", q), ("loose", l)] : List (Str × V)) := by kernel_rfl
theorem fi4 {L q l h : V} : putF "high" h ([("length", L), ("put_lines", q), ("loose", l)] : List (Str × V)) = ([("length", L), ("put_lines", q), ("loose", l), ("high", h)] : List (Str × V)) := by kernel_rfl
theorem fi5 {L q l h b : V} : putF "is_barred" b ([("length", L), ("put_lines", q), ("loose", l), ("high", h)] : List (Str × V)) = ([("length", L), ("put_lines", q), ("loose", l), ("high", h), ("is_barred", b)] : List (Str × V)) := by kernel_rfl
theorem fi6 {L q l h b u : V} : putF "unknown" u ([("length", L), ("put_lines", q), ("loose", l), ("high", h), ("is_barred", b)] : List (Str × V)) = ([("length", L), ("put_lines", q), ("loose", l), ("high", h), ("is_barred", b), ("unknown", u)] : List (Str × V)) := by kernel_rfl
theorem fn_pini (T : Tx K mg) : ∃ fd, FnOk P w K mg base CX0 1 (He.ma K (PC K) "__init__") fd ["self", "length"] (spPIni K) ∧ Binds K fd ["self", "length"] [] := by
  obtain ⟨fd, F⟩ := T.fnP (m := "__init__") (q := "Page.__init__") (st := sPInit) (List.mem_of_getElem? (i := 6) rfl)
  refine ⟨fd, ok0 F scPIni (fun vs H Q E h => ?_) fun cdv A outer s H vs Q E hr h => ?_, FunD.bindsN F fun _ _ _ _ _ _ us hl => match us, hl with | [_, _], _ => rfl⟩
  · obtain ⟨p, dx, H0, L, rfl, _⟩ := h
    rfl
  · obtain ⟨p, dx, H0, L, rfl, hp, sm, h0, qq⟩ := h
    refine ⟨_, pss_cons (ps_fld (pv 0) (pv 1) rfl) (pss_cons (ps_fld (pv 0) (pe_lst pa_nil) rfl) (pss_cons (ps_fld (pv 0) (pe_lst pa_nil) rfl) (pss_cons (ps_fld (pv 0) pe_int rfl) (pss_cons (ps_fld (pv 0) pe_bl rfl) (pss_one (ps_fld (pv 0) pe_bl rfl)))))), ?_⟩
    refine ⟨_, rfl, _, rfl, p, PC K, dx, _, rfl, hp, T.cls, T.noat _ (by decide +kernel), by show 0 < 1000; decide, ?_⟩
    rw [fi1]
    refine ⟨Nat.zero_le _, fun q hq => ⟨_, rfl, p, PC K, dx, _, rfl, by rw [upd_ne (ne_of_none upd_same hq)]; exact upd_same, T.cls, T.noat _ (by decide +kernel), by show 1 < 1000; decide, ?_⟩⟩
    have nq : q ≠ p := (ne_of_none upd_same hq).symm
    rw [fi2]
    refine ⟨Nat.zero_le _, fun l hl => ⟨_, rfl, p, PC K, dx, _, rfl, by rw [upd_ne (ne_of_none upd_same hl)]; exact upd_same, T.cls, T.noat _ (by decide +kernel), by show 2 < 1000; decide, ?_⟩⟩
    have nl : l ≠ p := (ne_of_none upd_same hl).symm
    rw [fi3]
    refine ⟨_, rfl, p, PC K, dx, _, rfl, upd_same, T.cls, T.noat _ (by decide +kernel), by show 3 < 1000; decide, ?_⟩
    rw [fi4, upd_upd]
    refine ⟨_, rfl, p, PC K, dx, _, rfl, upd_same, T.cls, T.noat _ (by decide +kernel), by show 4 < 1000; decide, ?_⟩
    rw [fi5, upd_upd]
    refine ⟨_, rfl, p, PC K, dx, _, rfl, upd_same, T.cls, T.noat _ (by decide +kernel), by show 5 < 1000; decide, ?_⟩
    rw [fi6, upd_upd]
    have hq0 : H q = none := by
      rw [upd_ne nq] at hq
      exact hq
    have hl' := hl
    rw [upd_ne nl] at hl'
    have nlq : l ≠ q := fun z => by
      rw [z, upd_same] at hl'
      cases hl'
    have hl0 : H l = none := by
      rw [upd_ne nlq, upd_ne nl] at hl'
      exact hl'
    refine qq _ ⟨q, l, [], [], [], ⟨dx, .bl false, upd_same, .inr ⟨_, rfl⟩, ?_, ?_, nlq.symm⟩, .nil, .nil, .nil, List.Pairwise.nil, ?_, ⟨h0, Same.none sm hq0, Same.none sm hl0, fun a ha => nomatch ha⟩⟩
    · rw [upd_ne nq, upd_ne nlq.symm, upd_ne nq, upd_same] <;> rfl
    · rw [upd_ne nl, upd_same] <;> rfl
    · exact Same.upd' (Same.upd' (Same.upd' (Same.upd' (Same.upd' sm h0) (Same.none sm hq0)) h0) (Same.none sm hl0)) h0
/-! resumed -/
def spRes (K : PySem.W.Frag) : Sp := fun vs H Q _ => ∃ (L : Nat) (v : V) (s : Sd), vs = [.int L, v] ∧ L ≤ 9 ∧ SdK K H v s ∧ s.ok L = true ∧ ∀ (H' : Hp) (p : Addr), On H (PC K) H' p L (Pg.res s) → Q (.ref p) H'
theorem scRes : FnScope ["length", "standing", "word", "high", "back", "page"] ["length", "standing"] (defScope sResume) := ⟨rfl, rfl, rfl, by decide +kernel, rfl, by decide +kernel, by decide +kernel⟩
theorem kept_eq (w : Wd) : decide (V.str (wdS w) = V.str "kept") = decide (w = .kp) := by
  by_cases h : w = .kp
  · rw [h]
    exact decide_eq_true rfl
  · rw [decide_eq_false h, decide_eq_false]
    intro z
    exact h (wdS_inj (a := w) (b := .kp) (V.str.inj z))
theorem fn_res (T : Tx K mg) : ∃ fd, FnOk P w K mg base CX0 4 (He5.wf K (PC K) "staticmethod" "resumed") fd ["length", "standing"] (spRes K) ∧ Binds K fd ["length", "standing"] [] := by
  obtain ⟨fd, F⟩ : ∃ fd, FnP K "resumed" "Page.resumed" sResume (He5.wf K (PC K) "staticmethod" "resumed") fd := T.def_ dResume (List.mem_of_getElem? (i := 7) rfl)
  obtain ⟨f1, F1, b1⟩ := fn_pini (P := P) (w := w) (base := base) T
  refine ⟨fd, ok0 F scRes (fun vs H Q E h => ?_) fun cdv A outer s H vs Q E hr h => ?_, FunD.bindsN F fun _ _ _ _ _ _ us hl => match us, hl with | [_, _], _ => rfl⟩
  · obtain ⟨L, v, s, rfl, _⟩ := h
    rfl
  · obtain ⟨L, v, s, rfl, hL, hv, ok, qq⟩ := h
    have nd := scRes.nd
    refine ⟨_, pss_cons (ps_asg (pe_ok (ok_chk T) hr (by decide) passN (pa_cons (pv 0) (pa_cons (pv 1) pa_nil))) (pg_tup rfl (pgs_cons (pg_name (i := 2) nd rfl (.inl rfl)) (pgs_cons (pg_name (i := 3) nd rfl (.inl rfl)) (pgs_cons (pg_name (i := 4) nd rfl (.inl rfl)) pgs_nil)))))
      (pss_cons (ps_set (i := 5) nd rfl (.inl rfl) (pe_make T.mkr F1 (hr.mono (by decide)) (by rfl) (T.glo "Page" (by decide +kernel)) b1 .nil pass0 (pa_cons (pv 0) pa_nil)))
      (pss_cons (ps_fld (pv 5) (pv 3) rfl)
      (pss_cons (ps_fld (pv 5) (pe_cmpR op_eq (pv 2) pe_str (nomark _)) rfl)
      (pss_cons (ps_if (pt_cmpR op_gt (pv 4) pe_int (nomark _)) (pss_cons (ps_fld (pv 5) (pe_lst (pa_cons (pe_lst (pa_cons pe_bl (pa_cons (pe_op op_sub (pv 3) (pv 4)) pa_nil))) pa_nil)) rfl) (pss_one (ps_fld (pv 5) pe_non rfl))) pss_nil)
      (pss_one (ps_ret (pv 5))))))), ?_⟩
    refine ⟨_, rfl, _, rfl, L, v, _, rfl, hL, dp_sd hv, sdD_shaped s, three_sd s, fm_sd hL ok hv, ?_, fun z => by rw [badD_sd ok] at z; cases z⟩
    intro _ H1 e1
    obtain ⟨t, rfl, ht⟩ := hv
    refine ⟨t, _, rfl, Evl.ex_t e1 ht, rfl, _, _, rfl, _, _, rfl, _, _, rfl, rfl, ?_⟩
    refine ⟨_, rfl, fun p dx hp hdx ne => ⟨p, dx, H, L, rfl, upd_same, Same.upd' (Same.upd' e1 (Same.none e1 hdx)) (Same.none e1 hp), Same.none e1 hp, fun H2 on2 => ⟨rfl, ?_⟩⟩⟩
    obtain ⟨q, l, ds, ls, pa, ⟨dx, u, h1, hu, h3, h4, h5⟩, e1, e2, e3, nd, sm, ft⟩ := on2
    cases e1
    cases e2
    cases e3
    refine ⟨_, rfl, _, rfl, p, PC K, dx, _, rfl, h1, T.cls, T.noat _ (by decide +kernel), by show 6 < 1000; decide, ?_⟩
    rw [fs_high]
    refine ⟨_, rfl, rfl, _, rfl, p, PC K, dx, _, rfl, upd_same, T.cls, T.noat _ (by decide +kernel), by show 6 < 1000; decide, ?_⟩
    rw [fs_bar, upd_upd, kept_eq]
    have n3 : q ≠ p := ins_ne_lst h1 h3
    have n4 : l ≠ p := ins_ne_lst h1 h4
    refine ⟨_, rfl, _, _, rfl, rfl, _, rfl, ite2 (fun c => ?_) (fun c => ?_)⟩
    · have c : 0 < s.b := by
        have := of_decide_eq_true c
        omega
      refine ⟨_, rfl, _, rfl, _, _, rfl, rfl, by show 2 ≤ sizeLine; decide, fun a ha => ⟨by show 1 ≤ sizeLine; decide, fun l' hl' => ?_⟩⟩
      have na : a ≠ p := (ne_of_none upd_same ha).symm
      have ha0 : H2 a = none := by
        rw [upd_ne na] at ha
        exact ha
      have sa := Same.upd (o := HO.lst [.bl false, .int ((s.h : Int) - s.b)]) ha
      have sl := Same.upd (o := HO.lst [.ref a]) hl'
      have hp' := sl _ _ (sa _ _ upd_same)
      refine ⟨_, rfl, p, PC K, dx, _, rfl, hp', T.cls, T.noat _ (by decide +kernel), by show 6 < 1000; decide, ?_⟩
      rw [fs_loose]
      refine ⟨_, rfl, p, PC K, dx, _, rfl, upd_same, T.cls, T.noat _ (by decide +kernel), by show 6 < 1000; decide, ?_⟩
      rw [fs_unk, upd_upd]
      have nl : l' ≠ p := (ne_of_none (sa _ _ upd_same) hl').symm
      have nla : a ≠ l' := ne_of_none upd_same hl'
      have hl0 : H2 l' = none := by
        rw [upd_ne nla.symm, upd_ne nl] at hl'
        exact hl'
      have nql : q ≠ l' := ne_of_none h3 hl0
      have nqa : q ≠ a := ne_of_none h3 ha0
      have e0 : Pg.res s = ⟨[], some ((s.h : Int) - s.b), [], s.h, decide (s.w = .kp)⟩ := by
        unfold Pg.res
        rw [if_pos c]
      refine ⟨_, rfl, qq _ p ?_⟩
      rw [e0]
      refine ⟨q, l', [], [], [a], ⟨dx, .non, upd_same, .inl rfl, ?_, ?_, nql⟩, .nil, .nil, .cons ?_ .nil, List.pairwise_singleton _ _, ?_, ⟨ft.p0, ft.q0, Same.none sm hl0, fun b hb => ?_⟩⟩
      · rw [upd_ne n3, upd_ne nql, upd_ne nqa, upd_ne n3]
        exact h3
      · rw [upd_ne nl, upd_same] <;> rfl
      · show upd _ p _ a = _
        rw [upd_ne na, upd_ne nla, upd_same]
      · exact Same.upd' (Same.upd' (Same.upd' (Same.upd' sm ft.p0) (Same.none sm ha0)) (Same.none sm hl0)) ft.p0
      · rw [List.mem_singleton.mp hb]
        exact Same.none sm ha0
    · have c : ¬ 0 < s.b := fun z => c (decide_eq_true (by omega))
      have e0 : Pg.res s = ⟨[], none, [], s.h, decide (s.w = .kp)⟩ := by
        unfold Pg.res
        rw [if_neg c]
      refine ⟨_, rfl, qq _ p ?_⟩
      rw [e0]
      exact ⟨q, l, [], [], [], ⟨dx, u, upd_same, hu, by rw [upd_ne n3]; exact h3, by rw [upd_ne n4]; exact h4, h5⟩, .nil, .nil, .nil, List.Pairwise.nil, Same.upd' sm ft.p0, ft⟩
end
end K32

set_option Elab.async false
set_option linter.all false
set_option maxRecDepth 100000
set_option maxHeartbeats 4000000
namespace K32
open PySem PySem.Spec PyProof.Rows L2
/-! ### the law's bag -/
theorem for_enum {K : PySem.W.Frag} {a : Addr} {xs : List V} {g : TG} {tb : TS} {D : Ends} {σ : L2.St} {H : Hp} (Pv : Nat → L2.St → Hp → Prop) (h0 : Pv 0 σ H) (hl : ∀ i σ H, i ≤ xs.length → Pv i σ H → SqL K H a xs)
    (hs : ∀ i x T σ H, xs[i]? = some x → Pv i σ H → H T = none → g (.ref T) σ (upd H T (.tup [.int (i : Nat), x])) fun σ2 H2 => tb { D with nx := Pv (i + 1), ct := Pv (i + 1), bk := D.nx } σ2 H2) (hd : ∀ σ H, Pv xs.length σ H → D.nx σ H) :
    ∃ W : Nat → Nat → L2.St → Hp → Prop, (∃ m, W 0 m σ H) ∧ ∀ i m σ H, W i m σ H →
      ((Ite K a).stop i H ∧ D.nx σ H) ∨ ((Ite K a).go i H ∧ ∃ N : L2.St → Hp → Prop, (∀ σ' H', N σ' H' → ∃ m', m' < m ∧ W (i + 1) m' σ' H') ∧ ∀ x H', (Ite K a).yld i H x H' → g x σ H' fun σ2 H2 => tb { D with nx := N, ct := N, bk := D.nx } σ2 H2) := by
  refine ⟨fun i m σ H => m = xs.length - i ∧ i ≤ xs.length ∧ Pv i σ H, ⟨xs.length, by simp, Nat.zero_le _, h0⟩, ?_⟩
  rintro i m σ H ⟨rfl, hi, p⟩
  have q := hl i σ H hi p
  by_cases hlt : i < xs.length
  · refine .inr ⟨⟨xs, xs[i], q, by simp [hlt]⟩, Pv (i + 1), fun σ' H' p' => ⟨xs.length - (i + 1), by omega, rfl, hlt, p'⟩, fun v H' y => ?_⟩
    obtain ⟨T, x, rfl, hT, rfl, y⟩ := y
    exact hs i x T σ H (y xs q) p hT
  · have e : i = xs.length := by omega
    subst e
    exact .inl ⟨⟨xs, q, Nat.le_refl _⟩, hd σ H p⟩
def Bag (H : Hp) (p : Addr) : Prop := ∃ a m c : Int, H p = some (.lst [.int a, .int m, .int c])
theorem boot_abs' : bootBuiltins "abs" = some (.builtin "abs") := by decide +kernel
def spBag (K : PySem.W.Frag) : Sp := fun vs H Q _ => ∃ (a : Addr) (ns : List Int) (i : Nat), vs = [.ref a, .int i] ∧ SqL K H a (ns.map V.int) ∧ ∀ (H' : Hp) (p : Addr), Same H H' → H p = none → Bag H' p → Q (.ref p) H'
theorem scBag : FnScope ["_law_script", "_law_at", "_law_great", "_law_mixed", "_law_place", "_law_cell"] ["_law_script", "_law_at"] (defScope sBag) := ⟨rfl, rfl, rfl, by decide +kernel, rfl, by decide +kernel, by decide +kernel⟩
section
variable {P : Program} {w : World} {K : PySem.W.Frag} {mg : Str → Option Value} {base : Heap}
theorem ok_bag (T : Tx K mg) : Ok P w K mg base CX0 1 "_law_bag" ["_law_script", "_law_at"] (spBag K) := by
  refine Ok.mk' 14 T (st := sBag) (fun fd F => ok0 F scBag (fun vs H Q E h => ?_) fun cdv A outer s H vs Q E hr h => ?_) (fun _ _ _ _ _ _ us hl => match us, hl with | [_, _], _ => rfl)
  · obtain ⟨a, ns, i, rfl, _⟩ := h
    rfl
  · obtain ⟨a, ns, i, rfl, ha, qq⟩ := h
    have nd := scBag.nd
    refine ⟨_, Evl.pss_cut (ps_set (i := 2) nd rfl (.inl rfl) (pe_ifExp (pt_cmpR op_lt (pv 1) (pe_callB call_len_seq (by rfl) (T.fre _ (by decide +kernel)) PySem.boot_len (pa_cons (pv 0) pa_nil)) (nomark _))
        (pe_callB call_abs (by rfl) (T.fre _ (by decide +kernel)) boot_abs' (pa_cons (pe_callTy call_int1 (by rfl) (T.fre _ (by decide +kernel)) boot_int' (pa_cons (pe_ix ix_list (pv 0) (pv 1) (fun _ _ => rfl)) pa_nil)) pa_nil)) pe_int))
      (pss_cons (ps_set (i := 3) nd rfl (.inl rfl) (pe_op op_add pe_int (pe_op op_mul pe_int (pv 1))))
      (pss_cons (ps_for PassesOwn.never rfl (pi_enum (by rfl) (T.fre _ (by decide +kernel)) (pa_cons (pe_slice sl_list (pv 0) po_none (po_some pe_int)) pa_nil)) (pg_tup rfl (pgs_cons (pg_name (i := 4) nd rfl (.inl rfl)) (pgs_cons (pg_name (i := 5) nd rfl (.inl rfl)) pgs_nil)))
        (pss_one (ps_set (i := 3) nd rfl (.inl rfl) (pe_op op_mod (pe_callTy call_int1 (by rfl) (T.fre _ (by decide +kernel)) boot_int' (pa_cons (pe_op op_add (pe_op op_add (pe_op op_mul (pv 3) pe_int) (pe_op op_mod (pe_callTy call_int1 (by rfl) (T.fre _ (by decide +kernel)) boot_int' (pa_cons (pv 5) pa_nil)) pe_int)) (pe_op op_mul pe_int (pv 4))) pa_nil)) pe_int))))
      (pss_one (ps_ret (pe_lst (pa_cons (pe_ifExp (pt_cmpR op_ge (pv 2) (pe_op op_pow pe_int pe_int) (nomark _)) (pv 2) pe_int) (pa_cons (pv 3) (pa_cons pe_int pa_nil)))))))), ?_⟩
    refine ⟨fun σ' H' => H' = H ∧ ∃ gr : Int, σ' = [some (.ref a), some (.int i), some (.int gr), none, none, none], ?_, ?_⟩
    · refine ⟨_, rfl, _, rfl, a, _, rfl, .inl ha, _, _, rfl, rfl, _, rfl, ite2 (fun c => ?_) (fun c => ⟨rfl, _, rfl⟩)⟩
      have c := of_decide_eq_true c
      rw [List.length_map] at c
      have hi : i < ns.length := by omega
      exact ⟨_, rfl, _, rfl, a, _, _, .int (ns[i]), rfl, rfl, ha, atI_nat (by rw [List.getElem?_map, List.getElem?_eq_getElem hi] <;> rfl), .inl ⟨_, rfl, _, rfl, rfl, _, rfl⟩⟩
    · rintro σ1 H1 ⟨rfl, gr, rfl⟩
      refine ⟨_, rfl, _, _, rfl, rfl, .inl ⟨by decide, by decide⟩, _, _, rfl, rfl, ?_⟩
      refine ⟨_, rfl, _, rfl, a, _, rfl, ha, fun b hb => ⟨b, _, rfl, SqL.of upd_same, for_enum (xs := cutV (ns.map V.int) none (some 63)) (fun j σ H2 => ∃ (mi : Int) (v1 v2 : Option V), σ = [some (.ref a), some (.int i), some (.int gr), some (.int mi), v1, v2] ∧ Same (upd H1 b (.lst (cutV (ns.map V.int) none (some 63)))) H2) ?_ ?_ ?_ ?_⟩⟩
      · exact ⟨_, _, _, rfl, fun _ _ z => z⟩
      · rintro j σ H2 _ ⟨mi, v1, v2, rfl, e⟩
        exact SqL.of (e _ _ upd_same)
      · rintro j x t σ H2 hx ⟨mi, v1, v2, rfl, e⟩ ht
        obtain ⟨z, rfl⟩ : ∃ z : Int, x = .int z := by
          have hm : x ∈ ns.map V.int := by
            have hm := List.mem_of_getElem? hx
            exact List.mem_of_mem_drop (List.mem_of_mem_take hm)
          obtain ⟨z, _, rfl⟩ := List.mem_map.mp hm
          exact ⟨z, rfl⟩
        refine ⟨t, _, rfl, SqT.of upd_same, rfl, _, _, rfl, _, _, rfl, rfl, ?_⟩
        exact ⟨_, rfl, _, _, rfl, rfl, .inr ⟨by decide, by decide⟩, _, rfl, .inl ⟨_, rfl, _, _, rfl, rfl, by show (0 : Int) < 2147483629; decide, _, _, rfl, rfl, _, rfl, _, _, rfl, rfl, .inl ⟨by decide, by decide⟩, _, _, rfl, rfl, .inl ⟨_, rfl, _, _, rfl, rfl, by show (0 : Int) < 2147483647; decide, _, _, _, rfl, e.trans (Same.upd ht)⟩⟩⟩
      · rintro σ H2 ⟨mi, v1, v2, rfl, e⟩
        have e := (Same.upd hb).trans e
        have fin : ∀ g : Int, ∀ p, H2 p = none → Q (.ref p) (upd H2 p (.lst [.int g, .int mi, .int 0])) := fun g p hp => qq _ p (e.trans (Same.upd hp)) (Same.none e hp) ⟨_, _, _, upd_same⟩
        refine ⟨_, rfl, _, _, rfl, rfl, ⟨by decide, by decide, by decide⟩, _, _, rfl, rfl, _, rfl, ite2 (fun c => ?_) (fun c => ?_)⟩
        · exact ⟨_, rfl, _, rfl, by show 3 ≤ sizeLine; decide, fun p hp => fin _ p hp⟩
        · exact ⟨_, rfl, by show 3 ≤ sizeLine; decide, fun p hp => fin _ p hp⟩
end
end K32

set_option Elab.async false
set_option linter.all false
set_option maxRecDepth 100000
set_option maxHeartbeats 4000000
namespace K32
open PySem PySem.Spec PyProof.Rows L2
/-! ### draws -/
theorem SameX.refl {p : Addr} {H : Hp} : SameX p H H := fun _ _ _ h => h
theorem SameX.trans {p : Addr} {H H1 H2 : Hp} (a : SameX p H H1) (b : SameX p H1 H2) : SameX p H H2 := fun x o n h => b x o n (a x o n h)
theorem SameX.of {p : Addr} {H H1 : Hp} (a : Same H H1) : SameX p H H1 := fun x o _ h => a x o h
theorem SameX.upd {p : Addr} {H H1 : Hp} {o : HO} (a : SameX p H H1) : SameX p H (L2.upd H1 p o) := fun x u n h => by
  rw [upd_ne n]
  exact a x u n h
def spDraw : Sp := fun vs H Q _ => ∃ (p : Addr) (many : Int), vs = [.ref p, .int many] ∧ Bag H p ∧ 0 < many ∧ many < 2 ^ 100 ∧ ∀ (d : Int) (H' : Hp), 0 ≤ d → d < many → SameX p H H' → Bag H' p → Q (.int d) H'
theorem scDraw : FnScope ["_law_bag_here", "_law_many", "_law_digit"] ["_law_bag_here", "_law_many"] (defScope sDraw) := ⟨rfl, rfl, rfl, by decide +kernel, rfl, by decide +kernel, by decide +kernel⟩
section
variable {P : Program} {w : World} {K : PySem.W.Frag} {mg : Str → Option Value} {base : Heap}
theorem ok_draw (T : Tx K mg) : Ok P w K mg base CX0 1 "_law_draw" ["_law_bag_here", "_law_many"] spDraw := by
  refine Ok.mk' 15 T (st := sDraw) (fun fd F => ok0 F scDraw (fun vs H Q E h => ?_) fun cdv A outer s H vs Q E hr h => ?_) (fun _ _ _ _ _ _ us hl => match us, hl with | [_, _], _ => rfl)
  · obtain ⟨a, ns, rfl, _⟩ := h
    rfl
  · obtain ⟨p, many, rfl, ⟨a, m, c, hp⟩, h0, h1, qq⟩ := h
    have nd := scDraw.nd
    refine ⟨_, pss_cons (ps_if (pt_cmpR op_gt (pe_ix ix_list (pv 0) pe_int (fun _ _ => rfl)) pe_int (nomark _))
        (pss_cons (ps_set (i := 2) nd rfl (.inl rfl) (pe_op op_mod (pe_callTy call_int1 (by rfl) (T.fre _ (by decide +kernel)) boot_int' (pa_cons (pe_ix ix_list (pv 0) pe_int (fun _ _ => rfl)) pa_nil)) (pv 1)))
        (pss_cons (ps_asg (pe_op op_fdivW (pe_ix ix_list (pv 0) pe_int (fun _ _ => rfl)) (pv 1)) (pg_sub (pv 0) pe_int set_list))
        (pss_one (ps_ret (pv 2))))) pss_nil)
      (pss_cons (ps_asg (pe_op op_add (pe_ix ix_list (pv 0) pe_int (fun _ _ => rfl)) pe_int) (pg_sub (pv 0) pe_int set_list))
      (pss_cons (ps_asg (pe_op op_mod (pe_callTy call_int1 (by rfl) (T.fre _ (by decide +kernel)) boot_int' (pa_cons (pe_op op_add (pe_op op_add (pe_op op_mul (pe_ix ix_list (pv 0) pe_int (fun _ _ => rfl)) pe_int) (pe_op op_mul pe_int (pe_ix ix_list (pv 0) pe_int (fun _ _ => rfl)))) pe_int) pa_nil)) pe_int) (pg_sub (pv 0) pe_int set_list))
      (pss_one (ps_ret (pe_op op_mod (pe_op op_fdiv (pe_callTy call_int1 (by rfl) (T.fre _ (by decide +kernel)) boot_int' (pa_cons (pe_op op_mod (pe_callTy call_int1 (by rfl) (T.fre _ (by decide +kernel)) boot_int' (pa_cons (pe_op op_add (pe_op op_mul (pe_ix ix_list (pv 0) pe_int (fun _ _ => rfl)) pe_int) (pe_op op_mul pe_int (pe_ix ix_list (pv 0) pe_int (fun _ _ => rfl)))) pa_nil)) pe_int) pa_nil)) pe_int) (pv 1)))))), ?_⟩
    refine ⟨_, rfl, p, _, 0, _, rfl, rfl, SqL.of hp, rfl, _, _, rfl, rfl, _, rfl, ite2 (fun cc => ?_) (fun cc => ?_)⟩
    · refine ⟨_, rfl, p, _, 0, _, rfl, rfl, SqL.of hp, rfl, .inl ⟨_, rfl, _, rfl, _, _, rfl, rfl, h0, ?_⟩⟩
      refine ⟨_, rfl, p, _, 0, _, rfl, rfl, SqL.of hp, rfl, _, rfl, _, _, rfl, rfl, wide_div (b := 100) h0 (by omega) (by decide) (by decide), _, rfl, p, _, 0, 0, rfl, rfl, hp, rfl, ?_⟩
      exact ⟨_, rfl, qq _ _ (Int.emod_nonneg _ (by omega)) (Int.emod_lt_of_pos _ h0) SameX.refl.upd ⟨_, _, _, upd_same⟩⟩
    · refine ⟨_, rfl, p, _, 2, _, rfl, rfl, SqL.of hp, rfl, _, _, rfl, rfl, _, rfl, p, _, 2, 2, rfl, rfl, hp, rfl, ?_⟩
      refine ⟨_, rfl, p, _, 1, _, rfl, rfl, SqL.of upd_same, rfl, _, _, rfl, rfl, .inr ⟨by decide, by decide⟩, _, rfl, p, _, 2, _, rfl, rfl, SqL.of upd_same, rfl, _, _, rfl, rfl, .inl ⟨by decide, by decide⟩, _, _, rfl, rfl, _, _, rfl, rfl, .inl ⟨_, rfl, _, _, rfl, rfl, by show (0 : Int) < 2147483647; decide, _, rfl, p, _, 1, 1, rfl, rfl, upd_same, rfl, ?_⟩⟩
      rw [upd_upd]
      exact ⟨_, rfl, p, _, 1, _, rfl, rfl, SqL.of upd_same, rfl, _, _, rfl, rfl, .inr ⟨by decide, by decide⟩, _, rfl, p, _, 2, _, rfl, rfl, SqL.of upd_same, rfl, _, _, rfl, rfl, .inl ⟨by decide, by decide⟩, _, _, rfl, rfl, .inl ⟨_, rfl, _, _, rfl, rfl, by show (0 : Int) < 2147483629; decide, .inl ⟨_, rfl, _, _, rfl, rfl, ⟨by decide, by decide⟩, _, rfl, _, _, rfl, rfl, h0,
        qq _ _ (Int.emod_nonneg _ (by omega)) (Int.emod_lt_of_pos _ h0) SameX.refl.upd ⟨_, _, _, upd_same⟩⟩⟩⟩
/-! _law_length -/
def spLen : Sp := fun vs H Q _ => ∃ (p : Addr), vs = [.ref p] ∧ Bag H p ∧ ∀ (L : Nat) (H' : Hp), 2 ≤ L → L ≤ 9 → SameX p H H' → Bag H' p → Q (.int L) H'
theorem scLen : FnScope ["_law_bag_here"] ["_law_bag_here"] (defScope sLength) := ⟨rfl, rfl, rfl, by decide +kernel, rfl, by decide +kernel, by decide +kernel⟩
theorem ok_len (T : Tx K mg) : Ok P w K mg base CX0 2 "_law_length" ["_law_bag_here"] spLen := by
  refine Ok.mk' 23 T (st := sLength) (fun fd F => ok0 F scLen (fun vs H Q E h => ?_) fun cdv A outer s H vs Q E hr h => ?_) (fun _ _ _ _ _ _ us hl => match us, hl with | [_], _ => rfl)
  · obtain ⟨a, rfl, _⟩ := h
    rfl
  · obtain ⟨p, rfl, hb, qq⟩ := h
    refine ⟨_, pss_one (ps_ret (pe_op op_add pe_int (pe_ifExp (pt_cmpR op_eq (pe_ok (ok_draw T) hr (by decide) pass0 (pa_cons (pv 0) (pa_cons pe_int pa_nil))) pe_int (nomark _)) (pe_ok (ok_draw T) hr (by decide) pass0 (pa_cons (pv 0) (pa_cons pe_int pa_nil))) (pe_ok (ok_draw T) hr (by decide) pass0 (pa_cons (pv 0) (pa_cons pe_int pa_nil)))))), ?_⟩
    refine ⟨_, rfl, p, _, rfl, hb, by decide, by decide, fun d H1 _ _ s1 b1 => ⟨rfl, _, rfl, ite2 (fun c => ?_) (fun c => ?_)⟩⟩
    · refine ⟨_, rfl, p, _, rfl, b1, by decide, by decide, fun d2 H2 z1 z2 s2 b2 => ⟨_, _, rfl, rfl, ?_⟩⟩
      have e : (2 : Int) + d2 = ((2 + d2.toNat : Nat) : Int) := by omega
      show Q (.int (2 + d2)) H2
      rw [e]
      exact qq _ _ (by omega) (by omega) (s1.trans s2) b2
    · refine ⟨_, rfl, p, _, rfl, b1, by decide, by decide, fun d2 H2 z1 z2 s2 b2 => ⟨_, _, rfl, rfl, ?_⟩⟩
      have e : (2 : Int) + d2 = ((2 + d2.toNat : Nat) : Int) := by omega
      show Q (.int (2 + d2)) H2
      rw [e]
      exact qq _ _ (by omega) (by omega) (s1.trans s2) b2
/-! _law_block -/
def spBlk : Sp := fun vs H Q _ => ∃ (p : Addr), vs = [.ref p, .int 20] ∧ Bag H p ∧ ∀ (b : Blk) (H' : Hp) (t : Addr), b.1 ≤ 20 → 0 ≤ b.2.1 → SameX p H H' → Bag H' p → H' t = some (.tup (blV b)) → Q (.ref t) H'
theorem scBlk : FnScope ["_law_bag_here", "_law_most", "_law_count"] ["_law_bag_here", "_law_most"] (defScope sBlk) := ⟨rfl, rfl, rfl, by decide +kernel, rfl, by decide +kernel, by decide +kernel⟩
theorem ok_blk (T : Tx K mg) : Ok P w K mg base CX0 2 "_law_block" ["_law_bag_here", "_law_most"] spBlk := by
  refine Ok.mk' 22 T (st := sBlk) (fun fd F => ok0 F scBlk (fun vs H Q E h => ?_) fun cdv A outer s H vs Q E hr h => ?_) (fun _ _ _ _ _ _ us hl => match us, hl with | [_, _], _ => rfl)
  · obtain ⟨a, rfl, _⟩ := h
    rfl
  · obtain ⟨p, rfl, hb, qq⟩ := h
    have nd := scBlk.nd
    refine ⟨_, Evl.pss_cut (ps_set (i := 2) nd rfl (.inl rfl) (pe_ifExp (pt_cmpR op_eq (pe_ok (ok_draw T) hr (by decide) pass0 (pa_cons (pv 0) (pa_cons pe_int pa_nil))) pe_int (nomark _)) (pe_ok (ok_draw T) hr (by decide) pass0 (pa_cons (pv 0) (pa_cons (pe_op op_add (pv 1) pe_int) pa_nil))) (pe_ok (ok_draw T) hr (by decide) pass0 (pa_cons (pv 0) (pa_cons pe_int pa_nil)))))
      (pss_one (ps_ret (pe_tup (pa_cons (pv 2) (pa_cons (pe_ok (ok_draw T) hr (by decide) pass0 (pa_cons (pv 0) (pa_cons pe_int pa_nil))) (pa_cons (pe_cmpR op_eq (pe_ok (ok_draw T) hr (by decide) pass0 (pa_cons (pv 0) (pa_cons pe_int pa_nil))) pe_int (nomark _)) (pa_cons (pe_cmpR op_eq (pe_ok (ok_draw T) hr (by decide) pass0 (pa_cons (pv 0) (pa_cons pe_int pa_nil))) pe_int (nomark _)) pa_nil))))))), ?_⟩
    refine ⟨fun σ' H' => ∃ n : Nat, σ' = [some (.ref p), some (.int 20), some (.int n)] ∧ n ≤ 20 ∧ SameX p H H' ∧ Bag H' p, ?_, ?_⟩
    · refine ⟨_, rfl, p, _, rfl, hb, by decide, by decide, fun d H1 _ _ s1 b1 => ⟨rfl, _, rfl, ite2 (fun c => ?_) (fun c => ?_)⟩⟩
      · refine ⟨_, rfl, _, rfl, _, _, rfl, rfl, p, _, rfl, b1, by decide, by decide, fun d2 H2 z1 z2 s2 b2 => ⟨d2.toNat, ?_, by omega, s1.trans s2, b2⟩⟩
        have e : d2 = (d2.toNat : Int) := by omega
        rw [← e] <;> rfl
      · refine ⟨_, rfl, p, _, rfl, b1, by decide, by decide, fun d2 H2 z1 z2 s2 b2 => ⟨d2.toNat, ?_, by omega, s1.trans s2, b2⟩⟩
        have e : d2 = (d2.toNat : Int) := by omega
        rw [← e] <;> rfl
    · rintro σ1 H1 ⟨n, rfl, hn, s1, b1⟩
      refine ⟨_, rfl, _, rfl, p, _, rfl, b1, by decide, by decide, fun d2 H2 y1 y2 s2 b2 => ⟨_, rfl, p, _, rfl, b2, by decide, by decide, fun d3 H3 _ _ s3 b3 => ⟨rfl, _, rfl, p, _, rfl, b3, by decide, by decide, fun d4 H4 _ _ s4 b4 => ⟨rfl, by show 4 ≤ sizeLine; decide, fun t ht => ?_⟩⟩⟩⟩
      have st := Same.upd (o := HO.tup (blV (n, d2, decide (V.int d3 = V.int 1), decide (V.int d4 = V.int 7)))) ht
      obtain ⟨x1, x2, x3, hx⟩ := b4
      exact qq (n, d2, _, _) _ t hn y1 ((s1.trans (s2.trans (s3.trans s4))).trans (.of st)) ⟨x1, x2, x3, st _ _ hx⟩ upd_same
end
end K32

set_option Elab.async false
set_option linter.all false
set_option maxRecDepth 100000
set_option maxHeartbeats 4000000
namespace K32
open PySem PySem.Spec PyProof.Rows L2
/-! ### _law_lines -/
/-- one tuple more behind the list -/
theorem app_tup {β : Type} {f : β → List V} {H0 H : Hp} {p t : Addr} {vs : List V} {rs : List β} {r : β} {xs : List V} (ex : xs = f r) (hp0 : H0 p = none) (e : Same H0 H) (hp : H p = some (.lst vs)) (hs : Paired (fun v r => TupAt H (f r) v) vs rs) (ht : H t = none) {H' : Hp} (eH : H' = upd (upd H t (.tup xs)) p (.lst (vs ++ [.ref t]))) :
    Same H0 H' ∧ H' p = some (.lst (vs ++ [.ref t])) ∧ Paired (fun v r => TupAt H' (f r) v) (vs ++ [.ref t]) (rs ++ [r]) := by
  subst ex
  subst eH
  have npt : t ≠ p := fun z => by
    rw [z, hp] at ht
    cases ht
  have k : ∀ a xs, H a = some (.tup xs) → upd (upd H t (.tup (f r))) p (.lst (vs ++ [.ref t])) a = some (.tup xs) := fun a xs h => by
    rw [upd_ne (fun z => by rw [z, hp] at h; cases h), upd_ne (ne_of_none h ht)]
    exact h
  refine ⟨Same.upd' (e.trans (Same.upd ht)) hp0, upd_same, Paired.snoc (Paired.imp (fun v s' h => ?_) hs) ⟨t, rfl, ?_⟩⟩
  · obtain ⟨a, h1, h2⟩ := h
    exact ⟨a, h1, k _ _ h2⟩
  · rw [upd_ne npt, upd_same]
def cnt (bs : List Blk) : Nat := (bs.map (·.1)).sum
theorem cnt_take : ∀ (bs : List Blk) (i : Nat) (b : Blk), bs[i]? = some b → cnt (bs.take i) + b.1 ≤ cnt bs
  | [], i, b, h => by simp at h
  | c :: bs, 0, b, h => by
    simp at h
    subst h
    simp [cnt]
  | c :: bs, i + 1, b, h => by
    have := cnt_take bs i b (by simpa using h)
    simp [cnt] at this ⊢
    omega
def stL (bs : List Blk) (i : Nat) : List Ln × Bool × Bool := (bs.take i).foldl stepB ([], false, true)
theorem stL_succ {bs : List Blk} {i : Nat} {b : Blk} (h : bs[i]? = some b) : stL bs (i + 1) = stepB (stL bs i) b := by
  unfold stL
  rw [take_succ' h, List.foldl_append] <;> rfl
theorem len_fold : ∀ (bs : List Blk) (s : List Ln × Bool × Bool), (bs.foldl stepB s).1.length = s.1.length + cnt bs
  | [], s => by simp [cnt]
  | b :: bs, s => by
    rw [List.foldl_cons, len_fold bs]
    show (s.1 ++ blkLines b.1 b.2.1 s.2.1 (s.2.2 || b.2.2.2)).length + cnt bs = _
    rw [List.length_append]
    simp [cnt, blkLines]
    omega
theorem len_stL (bs : List Blk) (i : Nat) : (stL bs i).1.length = cnt (bs.take i) := by
  unfold stL
  rw [len_fold]
  simp
def spLines (K : PySem.W.Frag) : Sp := fun vs H Q _ => ∃ (a : Addr) (xs : List V) (bs : List Blk), vs = [.ref a] ∧ H a = some (.lst xs) ∧ Paired (BlAt H) xs bs ∧ cnt bs ≤ 5000 ∧
  ∀ (H' : Hp) (t l : Addr) (ls : List V), Same H H' → H l = none → H' t = some (.tup [.ref l, .bl (linesB bs).2.1, .bl (linesB bs).2.2]) → H' l = some (.lst ls) → Paired (LnAt H') ls (linesB bs).1 → Q (.ref t) H'
theorem scLines : FnScope ["_law_blocks", "_law_lines_here", "_law_barred", "_law_due", "_law_count", "_law_space", "_law_kept", "_law_page", "_law_k"] ["_law_blocks"] (defScope sLines) := ⟨rfl, rfl, rfl, by decide +kernel, rfl, by decide +kernel, by decide +kernel⟩
section
variable {P : Program} {w : World} {K : PySem.W.Frag} {mg : Str → Option Value} {base : Heap}
theorem ok_lines (T : Tx K mg) : Ok P w K mg base CX0 1 "_law_lines" ["_law_blocks"] (spLines K) := by
  refine Ok.mk' 17 T (st := sLines) (fun fd F => ok0 F scLines (fun vs H Q E h => ?_) fun cdv A outer s H vs Q E hr h => ?_) (fun _ _ _ _ _ _ us hl => match us, hl with | [_], _ => rfl)
  · obtain ⟨a, xs, bs, rfl, _⟩ := h
    rfl
  · obtain ⟨a, xs, bs, rfl, ha, hb, hc, qq⟩ := h
    have nd := scLines.nd
    refine ⟨_, pss_cons (ps_par3 (i := 1) (j := 2) (l := 3) rfl nd rfl rfl rfl (by decide) (by decide) (by decide) rfl rfl rfl (pa_cons (pe_lst pa_nil) (pa_cons pe_bl (pa_cons pe_bl pa_nil))) (by rfl))
      (pss_cons (ps_for PassesOwn.never rfl (pi_list (pv 0)) (pg_tup rfl (pgs_cons (pg_name (i := 4) nd rfl (.inl rfl)) (pgs_cons (pg_name (i := 5) nd rfl (.inl rfl)) (pgs_cons (pg_name (i := 6) nd rfl (.inl rfl)) (pgs_cons (pg_name (i := 7) nd rfl (.inl rfl)) pgs_nil)))))
        (pss_cons (ps_set (i := 3) nd rfl (.inl rfl) (pe_or (pv 3) (pe_one (pv 7))))
        (pss_cons (ps_for PassesOwn.never rfl (pi_range1 (by rfl) (T.fre _ (by decide +kernel)) (pa_cons (pv 4) pa_nil)) (pg_name (i := 8) nd rfl (.inl rfl))
          (pss_one (ps_app (pv 1) (pe_ifExp (pt_cmpR op_eq (pv 8) pe_int (nomark _)) (pe_tup (pa_cons (pv 5) (pa_cons (pv 2) (pa_cons (pv 3) pa_nil)))) (pe_tup (pa_cons pe_int (pa_cons (pe_cmpR op_in_seq (pv 8) (pe_tup (pa_cons pe_int (pa_cons (pe_op op_sub (pv 4) pe_int) pa_nil))) (by rfl)) (pa_cons pe_bl pa_nil))))))))
        (pss_cons (ps_set (i := 3) nd rfl (.inl rfl) (pe_and (pv 3) (pe_one (pe_cmpR op_eq (pv 4) pe_int (nomark _)))))
        (pss_one (ps_set (i := 2) nd rfl (.inl rfl) (pe_ifExp (pt_cmpR op_gt (pv 4) pe_int (nomark _)) (pv 6) (pv 2))))))))
      (pss_one (ps_ret (pe_tup (pa_cons (pv 1) (pa_cons (pv 2) (pa_cons (pv 3) pa_nil))))))), ?_⟩
    refine ⟨Nat.zero_le _, fun l hl => ⟨_, _, _, rfl, ?_⟩⟩
    refine ⟨_, rfl, a, rfl, ⟨_, SqL.of (by rw [upd_ne (ne_of_none ha hl)]; exact ha)⟩, for_list (xs := xs) (fun i σ H1 => ∃ v4 v5 v6 v7 v8, σ = [some (.ref a), some (.ref l), some (.bl (stL bs i).2.1), some (.bl (stL bs i).2.2), v4, v5, v6, v7, v8] ∧ Same H H1 ∧ ∃ acc, H1 l = some (.lst acc) ∧ Paired (fun v r => TupAt H1 (lnV r) v) acc (stL bs i).1) ?_ ?_ ?_ ?_⟩
    · exact ⟨_, _, _, _, _, rfl, Same.upd hl, [], upd_same, .nil⟩
    · rintro i σ H1 _ ⟨v4, v5, v6, v7, v8, rfl, e, _⟩
      exact SqL.of (e _ _ ha)
    · rintro i x σ H1 hx ⟨v4, v5, v6, v7, v8, rfl, e, acc, hacc, pacc⟩
      obtain ⟨⟨n, sp, ke, pg⟩, hbi, t, rfl, ht⟩ := Paired.at1 hb hx
      have hsucc := stL_succ hbi
      have hlen := len_stL bs i
      have hct := cnt_take bs i _ hbi
      generalize stL bs i = st at pacc hsucc hlen ⊢
      obtain ⟨L0, ba, du⟩ := st
      refine ⟨t, _, rfl, SqT.of (e _ _ ht), rfl, _, _, rfl, _, _, rfl, _, _, rfl, _, _, rfl, rfl, ?_⟩
      have hor : ∀ Q' : V → Hp → Prop, Q' (.bl (du || pg)) H1 → tOrV (tVar 3) (tVar 7) [some (.ref a), some (.ref l), some (.bl ba), some (.bl du), some (.int n), some (.int sp), some (.bl ke), some (.bl pg), v8] H1 Q' := fun Q' q => by
        refine ⟨_, rfl, du, rfl, ?_⟩
        cases du with
        | true => exact iteT q
        | false => exact iteF ⟨_, rfl, q⟩
      refine hor _ ?_
      have hco : 0 ≤ (n : Int) := by omega
      refine ⟨_, rfl, (n : Int), rfl, by omega, by omega, for_range (lo := 0) (fun k σ H2 => ∃ v8, σ = [some (.ref a), some (.ref l), some (.bl ba), some (.bl (du || pg)), some (.int n), some (.int sp), some (.bl ke), some (.bl pg), v8] ∧ Same H H2 ∧ ∃ acc, H2 l = some (.lst acc) ∧ Paired (fun v r => TupAt H2 (lnV r) v) acc (L0 ++ (List.range k).map (blkLine n sp ba (du || pg)))) ?_ ?_ ?_⟩
      · refine ⟨_, rfl, e, acc, hacc, ?_⟩
        show Paired _ acc (L0 ++ [])
        rw [List.append_nil]
        exact pacc
      · rintro k σ H2 hk ⟨v8, rfl, e2, acc2, hacc2, pacc2⟩
        have hk : k < n := by omega
        have hl2 := Paired.length pacc2
        rw [List.length_append, List.length_map, List.length_range] at hl2
        dsimp only at hlen hct
        have hz : acc2.length < sizeLine := Evl.sz_lt (by omega)
        refine ⟨_, rfl, ty_list hacc2, _, rfl, rfl, _, rfl, ite2 (fun c => ?_) (fun c => ?_)⟩
        · have c : k = 0 := by
            have := V.int.inj (of_decide_eq_true c)
            omega
          refine ⟨_, rfl, _, rfl, _, rfl, by show 3 ≤ sizeLine; decide, fun u hu => ?_⟩
          have key := app_tup (f := lnV) (r := blkLine n sp ba (du || pg) k) (xs := [.int sp, .bl ba, .bl (du || pg)]) (by unfold blkLine; rw [if_pos c] <;> rfl) hl e2 hacc2 pacc2 hu rfl
          refine ⟨l, acc2, _, rfl, rfl, by rw [upd_ne (ne_of_none hacc2 hu)]; exact hacc2, hz, _, rfl, key.1, _, key.2.1, ?_⟩
          rw [List.range_succ, List.map_append, ← List.append_assoc]
          exact key.2.2
        · have c : k ≠ 0 := fun z => c (by rw [z]; exact decide_eq_true rfl)
          refine ⟨_, rfl, _, rfl, _, _, rfl, rfl, by show 2 ≤ sizeLine; decide, fun t2 ht2 => ?_⟩
          have s2 := Same.upd (o := HO.tup [.int 1, .int ((n : Int) - 1)]) ht2
          refine ⟨t2, _, rfl, .inr (SqT.of upd_same), rfl, rfl, by show 3 ≤ sizeLine; decide, fun u hu => ?_⟩
          have ei : inV (.int (0 + (k : Int))) [.int 1, .int ((n : Int) - 1)] = (decide (k = 1) || decide (k + 1 = n)) := by
            show ((1 : Int) == 0 + (k : Int) || (((n : Int) - 1) == 0 + (k : Int) || false)) = _
            rw [Bool.or_false]
            have e1 : ((1 : Int) == 0 + (k : Int)) = decide (k = 1) := by
              rw [Bool.eq_iff_iff, beq_iff_eq, decide_eq_true_eq]
              omega
            have e2 : (((n : Int) - 1) == 0 + (k : Int)) = decide (k + 1 = n) := by
              rw [Bool.eq_iff_iff, beq_iff_eq, decide_eq_true_eq]
              omega
            rw [e1, e2]
          have key := app_tup (f := lnV) (r := blkLine n sp ba (du || pg) k) (xs := [.int 0, .bl (inV (.int (0 + (k : Int))) [.int 1, .int ((n : Int) - 1)]), .bl false]) (by unfold blkLine; rw [if_neg c, ei] <;> rfl) hl (e2.trans s2) (s2 _ _ hacc2) (Paired.imp (fun _ _ h => TupAt.ext h s2) pacc2) hu rfl
          refine ⟨l, acc2, _, rfl, rfl, by rw [upd_ne (ne_of_none (s2 _ _ hacc2) hu)]; exact s2 _ _ hacc2, hz, _, rfl, key.1, _, key.2.1, ?_⟩
          rw [List.range_succ, List.map_append, ← List.append_assoc]
          exact key.2.2
      · rintro σ H2 ⟨v8, rfl, e2, acc2, hacc2, pacc2⟩
        have en : (n : Int).toNat = n := by omega
        rw [en] at pacc2
        have done : ∀ v w, v = V.bl (if 0 < n then ke else ba) → ∃ x4 x5 x6 x7 x8, [some (V.ref a), some (.ref l), some v, some (.bl ((du || pg) && decide (n = 0))), some (.int n), some (.int sp), some (.bl ke), some (.bl pg), w] = [some (V.ref a), some (.ref l), some (.bl (stL bs (i + 1)).2.1), some (.bl (stL bs (i + 1)).2.2), x4, x5, x6, x7, x8] ∧ Same H H2 ∧ ∃ acc, H2 l = some (.lst acc) ∧ Paired (fun v r => TupAt H2 (lnV r) v) acc (stL bs (i + 1)).1 := fun v w ev => by
          subst ev
          rw [hsucc]
          exact ⟨_, _, _, _, _, rfl, e2, acc2, hacc2, pacc2⟩
        have hand : ∀ Q' : V → Hp → Prop, Q' (.bl ((du || pg) && decide (n = 0))) H2 → tAndV (tVar 3) (tOp (fun x y H Q => scal x y = true ∧ Q (.bl (decide (x = y))) H) (tVar 4) (tC (.int 0))) [some (.ref a), some (.ref l), some (.bl ba), some (.bl (du || pg)), some (.int n), some (.int sp), some (.bl ke), some (.bl pg), v8] H2 Q' := fun Q' q => by
          refine ⟨_, rfl, du || pg, rfl, ?_⟩
          cases hd : (du || pg) with
          | false =>
            rw [hd] at q
            exact iteF q
          | true =>
            rw [hd] at q
            refine iteT ⟨_, rfl, rfl, ?_⟩
            have ed : decide (V.int (n : Int) = V.int 0) = decide (n = 0) := by
              rw [Bool.eq_iff_iff, decide_eq_true_eq, decide_eq_true_eq]
              exact ⟨fun z => by have := V.int.inj z; omega, fun z => by rw [z] <;> rfl⟩
            rw [ed]
            exact q
        refine hand _ ?_
        refine ⟨_, rfl, _, _, rfl, rfl, _, rfl, ite2 (fun c => ?_) (fun c => ?_)⟩
        · refine ⟨_, rfl, ?_⟩
          have c : 0 < n := by
            have := of_decide_eq_true c
            omega
          exact done _ _ (by rw [if_pos c])
        · refine ⟨_, rfl, ?_⟩
          have c : ¬ 0 < n := fun z => c (decide_eq_true (by omega))
          exact done _ _ (by rw [if_neg c])
    · rintro σ H1 ⟨v4, v5, v6, v7, v8, rfl, e, acc, hacc, pacc⟩
      have el : stL bs xs.length = linesB bs := by
        unfold stL linesB
        rw [List.take_of_length_le (by rw [Paired.length hb]; exact Nat.le_refl _)]
      rw [el] at pacc ⊢
      refine ⟨_, rfl, _, rfl, _, rfl, by show 3 ≤ sizeLine; decide, fun t ht => ?_⟩
      have st := Same.upd (o := HO.tup [.ref l, .bl (linesB bs).2.1, .bl (linesB bs).2.2]) ht
      exact qq _ t l acc (e.trans st) hl upd_same (st _ _ hacc) (Paired.imp (fun _ _ h => TupAt.ext h st) pacc)
end
end K32

set_option Elab.async false
set_option linter.all false
set_option maxRecDepth 100000
set_option maxHeartbeats 4000000
namespace K32
open PySem PySem.Spec PyProof.Rows L2
/-! ### _law_lead -/
def spLead (K : PySem.W.Frag) : Sp := fun vs H Q _ => ∃ (v : V) (L : Nat) (s : Sd), vs = [v] ∧ SdK K H v s ∧ s.ok L = true ∧ L ≤ 9 ∧ ∀ (H' : Hp) (p : Addr) (xs : List V), Same H H' → H p = none → H' p = some (.lst xs) → Paired (BlAt H') xs (lead s) → Q (.ref p) H'
theorem scLead : FnScope ["_law_standing_here", "_law_word", "_law_high", "_law_back"] ["_law_standing_here"] (defScope sLead) := ⟨rfl, rfl, rfl, by decide +kernel, rfl, by decide +kernel, by decide +kernel⟩
section
variable {P : Program} {w : World} {K : PySem.W.Frag} {mg : Str → Option Value} {base : Heap}
theorem ok_lead (T : Tx K mg) : Ok P w K mg base CX0 1 "_law_lead" ["_law_standing_here"] (spLead K) := by
  refine Ok.mk' 21 T (st := sLead) (fun fd F => ok0 F scLead (fun vs H Q E h => ?_) fun cdv A outer s H vs Q E hr h => ?_) (fun _ _ _ _ _ _ us hl => match us, hl with | [_], _ => rfl)
  · obtain ⟨v, L, s, rfl, _⟩ := h
    rfl
  · obtain ⟨v, L, s, rfl, ⟨a, rfl, ha⟩, ok, hL, qq⟩ := h
    have nd := scLead.nd
    refine ⟨_, pss_cons (ps_asg (pv 0) (pg_tup rfl (pgs_cons (pg_name (i := 1) nd rfl (.inl rfl)) (pgs_cons (pg_name (i := 2) nd rfl (.inl rfl)) (pgs_cons (pg_name (i := 3) nd rfl (.inl rfl)) pgs_nil)))))
      (pss_cons (ps_if (pt_cmpR op_ne (pv 1) pe_str (nomark _)) (pss_one (ps_ret (pe_op op_rep (pe_lst (pa_cons (pe_tup (pa_cons pe_int (pa_cons pe_int (pa_cons pe_bl (pa_cons pe_bl pa_nil))))) pa_nil)) (pv 2)))) pss_nil)
      (pss_cons (ps_if (pt_cmpR op_eq (pv 3) pe_int (nomark _)) (pss_one (ps_ret (pe_op op_rep (pe_lst (pa_cons (pe_tup (pa_cons pe_int (pa_cons pe_int (pa_cons pe_bl (pa_cons pe_bl pa_nil))))) pa_nil)) (pv 2)))) pss_nil)
      (pss_one (ps_ret (pe_op op_cat (pe_op op_rep (pe_lst (pa_cons (pe_tup (pa_cons pe_int (pa_cons pe_int (pa_cons pe_bl (pa_cons pe_bl pa_nil))))) pa_nil)) (pe_op op_sub (pv 2) (pv 3)))
        (pe_op op_rep (pe_lst (pa_cons (pe_tup (pa_cons pe_int (pa_cons pe_int (pa_cons pe_bl (pa_cons pe_bl pa_nil))))) pa_nil)) (pv 3))))))), ?_⟩
    have hle := ok_le ok
    refine ⟨_, rfl, a, _, rfl, ha, rfl, _, _, rfl, _, _, rfl, _, _, rfl, rfl, _, rfl, rfl, _, rfl, ite2 (fun c => ?_) (fun c => ?_)⟩
    · have c : s.w ≠ .kp := fun z => by
        have z' : decide (V.str (wdS s.w) = V.str "kept") = true := by rw [kept_eq]; exact decide_eq_true z
        rw [z'] at c
        exact Bool.noConfusion c
      refine ⟨by show 4 ≤ sizeLine; decide, fun t ht => ⟨by show 1 ≤ sizeLine; decide, fun l hl => ⟨_, rfl, l, _, _, rfl, rfl, upd_same, by omega, by omega, ?_, fun p hp => ?_⟩⟩⟩
      · show 1 * _ ≤ sizeLine
        rw [sizeLine_eq]
        omega
      · have s1 := Same.upd (o := HO.tup [.int 1, .int 0, .bl false, .bl false]) ht
        have s2 := Same.upd (o := HO.lst [.ref t]) hl
        have s3 := Same.upd (o := HO.lst (List.replicate ((s.h : Nat) : Int).toNat [V.ref t]).flatten) hp
        have el : lead s = List.replicate s.h (1, 0, false, false) := by
          obtain ⟨w, h, b⟩ := s
          cases w with
          | kp => exact absurd rfl c
          | _ => rfl
        refine qq _ p _ (s1.trans (s2.trans s3)) (Same.none (s1.trans s2) hp) upd_same ?_
        rw [el, rep_one, show ((s.h : Nat) : Int).toNat = s.h by omega]
        exact Paired.rep ⟨t, rfl, by
          have z := s3 _ _ (s2 _ _ upd_same)
          rw [rep_one, show ((s.h : Nat) : Int).toNat = s.h by omega] at z
          exact z⟩ _
    · have c : s.w = .kp := by
        by_cases z : s.w = .kp
        · exact z
        · have z' : decide (V.str (wdS s.w) = V.str "kept") = false := by rw [kept_eq]; exact decide_eq_false z
          rw [z'] at c
          exact absurd rfl c
      refine ⟨_, rfl, rfl, _, rfl, ite2 (fun c2 => ?_) (fun c2 => ?_)⟩
      · have c2 : s.b = 0 := by
          have := V.int.inj (of_decide_eq_true c2)
          omega
        refine ⟨by show 4 ≤ sizeLine; decide, fun t ht => ⟨by show 1 ≤ sizeLine; decide, fun l hl => ⟨_, rfl, l, _, _, rfl, rfl, upd_same, by omega, by omega, ?_, fun p hp => ?_⟩⟩⟩
        · show 1 * _ ≤ sizeLine
          rw [sizeLine_eq]
          omega
        · have s1 := Same.upd (o := HO.tup [.int 1, .int 0, .bl true, .bl false]) ht
          have s2 := Same.upd (o := HO.lst [.ref t]) hl
          have s3 := Same.upd (o := HO.lst (List.replicate ((s.h : Nat) : Int).toNat [V.ref t]).flatten) hp
          have el : lead s = List.replicate s.h (1, 0, true, false) := by
            unfold lead
            rw [c]
            show (if s.b = 0 then _ else _) = _
            rw [if_pos c2]
          refine qq _ p _ (s1.trans (s2.trans s3)) (Same.none (s1.trans s2) hp) upd_same ?_
          rw [el, rep_one, show ((s.h : Nat) : Int).toNat = s.h by omega]
          exact Paired.rep ⟨t, rfl, by
            have z := s3 _ _ (s2 _ _ upd_same)
            rw [rep_one, show ((s.h : Nat) : Int).toNat = s.h by omega] at z
            exact z⟩ _
      · have c2 : ¬ s.b = 0 := fun z => c2 (by rw [z]; exact decide_eq_true rfl)
        have en : ((s.h : Int) - (s.b : Int)).toNat = s.h - s.b := by omega
        have eb : ((s.b : Nat) : Int).toNat = s.b := by omega
        refine ⟨by show 4 ≤ sizeLine; decide, fun t ht => ⟨by show 1 ≤ sizeLine; decide, fun l hl => ⟨_, rfl, _, rfl, _, _, rfl, rfl, l, _, _, rfl, rfl, upd_same, by omega, by omega, ?_, fun p hp =>
          ⟨by show 4 ≤ sizeLine; decide, fun t2 ht2 => ⟨by show 1 ≤ sizeLine; decide, fun l2 hl2 => ⟨_, rfl, l2, _, _, rfl, rfl, upd_same, by omega, by omega, ?_, fun p2 hp2 => ⟨p, p2, (List.replicate ((s.h : Int) - s.b).toNat [V.ref t]).flatten, (List.replicate ((s.b : Nat) : Int).toNat [V.ref t2]).flatten, rfl, rfl, ?_, upd_same, ?_, fun p3 hp3 => ?_⟩⟩⟩⟩⟩⟩⟩
        · show 1 * _ ≤ sizeLine
          rw [sizeLine_eq]
          omega
        · show 1 * _ ≤ sizeLine
          rw [sizeLine_eq]
          omega
        · exact Same.upd hp2 _ _ (Same.upd hl2 _ _ (Same.upd ht2 _ _ upd_same))
        · rw [rep_one, rep_one, List.length_replicate, List.length_replicate, sizeLine_eq]
          omega
        · have s1 := Same.upd (o := HO.tup [.int 1, .int 0, .bl false, .bl false]) ht
          have s2 := Same.upd (o := HO.lst [.ref t]) hl
          have s3 := Same.upd (o := HO.lst (List.replicate ((s.h : Int) - s.b).toNat [V.ref t]).flatten) hp
          have s4 := Same.upd (o := HO.tup [.int 1, .int 0, .bl true, .bl false]) ht2
          have s5 := Same.upd (o := HO.lst [.ref t2]) hl2
          have s6 := Same.upd (o := HO.lst (List.replicate ((s.b : Nat) : Int).toNat [V.ref t2]).flatten) hp2
          have s7 := Same.upd (o := HO.lst ((List.replicate ((s.h : Int) - s.b).toNat [V.ref t]).flatten ++ (List.replicate ((s.b : Nat) : Int).toNat [V.ref t2]).flatten)) hp3
          have el : lead s = List.replicate (s.h - s.b) (1, 0, false, false) ++ List.replicate s.b (1, 0, true, false) := by
            unfold lead
            rw [c]
            show (if s.b = 0 then _ else _) = _
            rw [if_neg c2]
          have e1 : (List.replicate ((s.h : Int) - s.b).toNat [V.ref t]).flatten = List.replicate (s.h - s.b) (V.ref t) := by rw [rep_one, en]
          have e2 : (List.replicate ((s.b : Nat) : Int).toNat [V.ref t2]).flatten = List.replicate s.b (V.ref t2) := by rw [rep_one, eb]
          have y1 := s7 _ _ (s6 _ _ (s5 _ _ (s4 _ _ (s3 _ _ (s2 _ _ upd_same)))))
          have y2 := s7 _ _ (s6 _ _ (s5 _ _ upd_same))
          have key := Paired.app (Paired.rep (R := BlAt _) (y := ((1, 0, false, false) : Blk)) ⟨t, rfl, y1⟩ (s.h - s.b)) (Paired.rep (R := BlAt _) (y := ((1, 0, true, false) : Blk)) ⟨t2, rfl, y2⟩ s.b)
          rw [← e1, ← e2, ← el] at key
          exact qq _ p3 _ (s1.trans (s2.trans (s3.trans (s4.trans (s5.trans (s6.trans s7)))))) (Same.none (s1.trans (s2.trans (s3.trans (s4.trans (s5.trans s6))))) hp3) upd_same key
end
end K32

set_option Elab.async false
set_option linter.all false
set_option maxRecDepth 100000
set_option maxHeartbeats 4000000
namespace K32
open PySem PySem.Spec PyProof.Rows L2
/-! ### _law_cut, _law_pages -/
def frees (rest : List Ln) (j : Nat) : List Nat := (List.range j).filter fun k => !((rest[k]?).elim true fun l => l.2.1)
theorem frees_succ {rest : List Ln} {j : Nat} {l : Ln} (h : rest[j]? = some l) : frees rest (j + 1) = if l.2.1 = true then frees rest j else frees rest j ++ [j] := by
  unfold frees
  rw [List.range_succ, List.filter_append]
  cases e : l.2.1 with
  | true =>
    rw [if_pos rfl]
    simp [h, e]
  | false =>
    rw [if_neg (by decide)]
    simp [h, e]
theorem frees_last {rest : List Ln} {j : Nat} {l : Ln} (h : rest[j]? = some l) : (frees rest (j + 1)).getLast? = if l.2.1 = true then (frees rest j).getLast? else some j := by
  rw [frees_succ h]
  split
  · rfl
  · simp
theorem frees_len (rest : List Ln) (j : Nat) : (frees rest j).length ≤ j := Nat.le_trans (List.length_filter_le _ _) (by simp)
theorem drop_cons {α : Type} {l : List α} {i : Nat} {a : α} (h : l[i]? = some a) : l.drop i = a :: l.drop (i + 1) := by
  obtain ⟨hi, e⟩ := List.getElem?_eq_some_iff.mp h
  rw [List.drop_eq_getElem_cons hi, e]
theorem ints_dp {K : PySem.W.Frag} {H : Hp} : ∀ ns : List Int, DpAll K H (ns.map V.int) (ns.map PyData.int)
  | [] => .nil
  | n :: ns => .cons (.int n) (ints_dp ns)
theorem ints_lay : ∀ ns : List Int, PyData.canLayAll0 (ns.map PyData.int) = true
  | [] => by simp [PyData.canLayAll0]
  | n :: ns => by simp [PyData.canLayAll0, PyData.canLay0, ints_lay ns]
theorem ints_depth : ∀ ns : List Int, PyData.depthAll (ns.map PyData.int) ≤ 0
  | [] => by simp [PyData.depthAll]
  | n :: ns => by
    have h := ints_depth ns
    simp only [List.map_cons, PyData.depthAll, PyData.depth]
    omega
theorem ints_shaped (ns : List Int) : SeqAt.shaped (.list (ns.map PyData.int)) = true := shaped_of (by simp only [PyData.canLay0]; exact ints_lay ns) (by
  have h := ints_depth ns
  simp only [PyData.depth]
  omega)
theorem ints_nil (ns : List Int) : PyData.eqv (.list (ns.map PyData.int)) (.list []) = ns.isEmpty := by cases ns <;> simp [PyData.eqv, PyData.eqvAll]
theorem nil_shaped : SeqAt.shaped (.list []) = true := ints_shaped []
/-- within a comprehension -/
theorem ix_listK {X : Cx} (K : PySem.W.Frag) (h : X.K = K := by rfl) : IxR X (rIxL K) := h ▸ ix_list
theorem ix_tupK {X : Cx} (K : PySem.W.Frag) (h : X.K = K := by rfl) : IxR X (rIxT K) := h ▸ ix_tup
/-- the whole cut -/
def cutA (L : Nat) (ls : List Ln) (st : Nat) : Nat := st + 1 + cutR L (ls.drop (st + 1)) 0 0 none
def spCut (K : PySem.W.Frag) : Sp := fun vs H Q _ => ∃ (L st : Nat) (a : Addr) (xs : List V) (ls : List Ln), vs = [.int L, .ref a, .int st] ∧ H a = some (.lst xs) ∧ Paired (LnAt H) xs ls ∧ st < ls.length ∧ ls.length ≤ 5000 ∧ ∀ H', Same H H' → Q (.int (cutA L ls st)) H'
theorem scCut : FnScope ["_law_length_here", "_law_lines_here", "_law_start", "_law_row", "_law_at", "_law_free", "_law_k"] ["_law_length_here", "_law_lines_here", "_law_start"] (defScope sCut) := ⟨rfl, rfl, rfl, by decide +kernel, rfl, by decide +kernel, by decide +kernel⟩
section
variable {P : Program} {w : World} {K : PySem.W.Frag} {mg : Str → Option Value} {base : Heap}
theorem ok_cut (T : Tx K mg) : Ok P w K mg base CX0 1 "_law_cut" ["_law_length_here", "_law_lines_here", "_law_start"] (spCut K) := by
  refine Ok.mk' 18 T (st := sCut) (fun fd F => ok0 F scCut (fun vs H Q E h => ?_) fun cdv A outer s H vs Q E hr h => ?_) (fun _ _ _ _ _ _ us hl => match us, hl with | [_, _, _], _ => rfl)
  · obtain ⟨L, st, a, xs, ls, rfl, _⟩ := h
    rfl
  · obtain ⟨L, st, a, xs, ls, rfl, ha, hp, hst, hz, qq⟩ := h
    have nd := scCut.nd
    refine ⟨_, pss_cons (ps_set (i := 3) nd rfl (.inl rfl) pe_int)
      (pss_cons (ps_for PassesOwn.never rfl (pi_range2 (by rfl) (T.fre _ (by decide +kernel)) (pa_cons (pe_op op_add (pv 2) pe_int) (pa_cons (pe_callB call_len_seq (by rfl) (T.fre _ (by decide +kernel)) PySem.boot_len (pa_cons (pv 1) pa_nil)) pa_nil))) (pg_name (i := 4) nd rfl (.inl rfl))
        (pss_cons (ps_set (i := 3) nd rfl (.inl rfl) (pe_op op_add (pe_op op_add (pv 3) (pe_ix ix_tup (pe_ix ix_list (pv 1) (pv 4) (fun _ _ => rfl)) pe_int (fun _ _ => rfl))) pe_int))
        (pss_cons (ps_if (pt_val (pe_ix ix_tup (pe_ix ix_list (pv 1) (pv 4) (fun _ _ => rfl)) pe_int (fun _ _ => rfl))) (pss_one (ps_ret (pv 4))) pss_nil)
        (pss_one (ps_if (pt_cmpR op_ge (pv 3) (pv 0) (nomark _))
          (pss_cons (ps_setLc (i := 5) (own := [("_law_k", 6)]) (g := gName 6) rfl nd rfl rfl (sw_true rfl rfl rfl (by decide +kernel)) (pi_range2 (by rfl) (T.fre _ (by decide +kernel)) (pa_cons (pe_op op_add (pv 2) pe_int) (pa_cons (pe_op op_add (pv 4) pe_int) pa_nil)))
              (blkOk_by (N := ["_law_length_here", "_law_lines_here", "_law_start", "_law_row", "_law_at", "_law_free", "_law_k"]) (sc := defScope sCut) (by decide +kernel)) (fun _ _ _ _ _ => pg_name (i := 6) nd rfl (Or.inl rfl)) (fun _ _ _ _ _ => pts_one (pt_not (pt_val (pe_ix (ix_tupK K) (pe_ix (ix_listK K) (pv 1) (pv 6) (fun _ _ => rfl)) pe_int (fun _ _ => rfl))))) (fun _ _ _ _ _ => pv 6))
          (pss_one (ps_ret (pe_ifExp (pt_cmpR (op_neD hr.units) (pv 5) (pe_lst pa_nil) (nomark _)) (pe_ix ix_list (pv 5) (pe_un un_neg pe_int) (fun _ _ => rfl)) (pv 4))))) pss_nil)))))
      (pss_one (ps_ret (pe_callB call_len_seq (by rfl) (T.fre _ (by decide +kernel)) PySem.boot_len (pa_cons (pv 1) pa_nil))))), ?_⟩
    have hlx := Paired.length hp
    have lnat : ∀ {H' : Hp} {k : Nat} {l : Ln}, Same H H' → ls[k]? = some l → ∃ t, xs[k]? = some (.ref t) ∧ H' t = some (.tup (lnV l)) := fun e h => by
      obtain ⟨x, h1, t, rfl, h2⟩ := Paired.at' hp h
      exact ⟨t, h1, e _ _ h2⟩
    refine ⟨_, rfl, _, _, rfl, rfl, _, rfl, a, xs, rfl, .inl (SqL.of ha), (st : Int) + 1, ((xs.length : Nat) : Int), rfl, ⟨by omega, by omega, by omega, by omega⟩, for_range (lo := (st : Int) + 1) (fun j σ H1 => Same H H1 ∧ ∃ (row : Int) (v4 : Option V), σ = [some (.int L), some (.ref a), some (.int st), some (.int row), v4, none, none] ∧ j ≤ ls.length - (st + 1) ∧
      cutR L (ls.drop (st + 1)) 0 0 none = cutR L ((ls.drop (st + 1)).drop j) j row (frees (ls.drop (st + 1)) j).getLast?) ?_ ?_ ?_⟩
    · exact ⟨fun _ _ z => z, 0, none, rfl, Nat.zero_le _, rfl⟩
    · rintro j σ H1 hj ⟨e, row, v4, rfl, hj2, hc⟩
      have hjl : st + 1 + j < ls.length := by omega
      obtain ⟨l, hl⟩ : ∃ l, ls[st + 1 + j]? = some l := ⟨_, List.getElem?_eq_getElem hjl⟩
      have hl' : (ls.drop (st + 1))[j]? = some l := by rw [List.getElem?_drop]; exact hl
      obtain ⟨t, hx, ht⟩ := lnat e hl
      have hat : atI xs ((st : Int) + 1 + j) = some (.ref t) := by
        have z := atI_nat hx
        rw [show ((st + 1 + j : Nat) : Int) = (st : Int) + 1 + j by omega] at z
        exact z
      rw [drop_cons hl'] at hc
      refine ⟨_, rfl, _, rfl, _, rfl, a, xs, _, _, rfl, rfl, SqL.of (e _ _ ha), hat, t, _, 0, _, rfl, rfl, SqT.of ht, rfl, _, _, rfl, rfl, _, _, rfl, rfl, ?_⟩
      refine ⟨_, rfl, _, rfl, a, xs, _, _, rfl, rfl, SqL.of (e _ _ ha), hat, t, _, 2, _, rfl, rfl, SqT.of ht, rfl, l.2.2, rfl, ite2 (fun c => ?_) (fun c => ?_)⟩
      · have ec : cutA L ls st = st + 1 + j := by
          unfold cutA
          rw [hc]
          unfold cutR
          rw [if_pos c]
        refine ⟨_, rfl, ?_⟩
        have z := qq H1 e
        rw [ec, show ((st + 1 + j : Nat) : Int) = (st : Int) + 1 + j by omega] at z
        exact z
      · refine ⟨_, rfl, _, rfl, _, _, rfl, rfl, _, rfl, ite2 (fun c2 => ?_) (fun c2 => ?_)⟩
        · have c2 := of_decide_eq_true c2
          have ec : cutA L ls st = st + 1 + (frees (ls.drop (st + 1)) (j + 1)).getLast?.getD j := by
            unfold cutA
            rw [hc]
            unfold cutR
            rw [if_neg c, if_pos c2, frees_last hl']
          have z := qq
          rw [ec] at z
          refine ⟨_, rfl, _, _, rfl, rfl, _, rfl, _, _, rfl, rfl, (st : Int) + 1, (st : Int) + 1 + j + 1, rfl, ⟨by omega, by omega, by omega, by omega⟩, fun D hD => lc_range (lo := (st : Int) + 1)
            (fun i H2 => Same H1 H2 ∧ H2 D = some (.lst (((frees (ls.drop (st + 1)) i).map fun k => (st : Int) + 1 + (k : Nat)).map V.int))) ?_ ?_ ?_⟩
          · exact ⟨Same.upd hD, upd_same⟩
          · rintro i H2 hi ⟨e2, h2⟩
            have hi : i < j + 1 := by omega
            have hil : st + 1 + i < ls.length := by omega
            obtain ⟨l2, hl2⟩ : ∃ l, ls[st + 1 + i]? = some l := ⟨_, List.getElem?_eq_getElem hil⟩
            have hl2' : (ls.drop (st + 1))[i]? = some l2 := by rw [List.getElem?_drop]; exact hl2
            obtain ⟨t2, hx2, ht2⟩ := lnat (e.trans e2) hl2
            have hat2 : atI xs ((st : Int) + 1 + i) = some (.ref t2) := by
              have z := atI_nat hx2
              rw [show ((st + 1 + i : Nat) : Int) = (st : Int) + 1 + i by omega] at z
              exact z
            have fl := frees_len (ls.drop (st + 1)) i
            refine ⟨rfl, _, rfl, _, rfl, a, xs, _, _, rfl, rfl, SqL.of (e2 _ _ (e _ _ ha)), hat2, t2, _, 1, _, rfl, rfl, SqT.of ht2, rfl, l2.2.1, rfl, ?_⟩
            cases hb : l2.2.1 with
            | true =>
              refine iteF ⟨e2, ?_⟩
              rw [frees_succ hl2', if_pos hb]
              exact h2
            | false =>
              refine iteT ⟨_, rfl, _, h2, Evl.sz_lt (by rw [List.length_map, List.length_map]; omega), Same.upd' e2 hD, ?_⟩
              rw [upd_same, frees_succ hl2', if_neg (by rw [hb]; decide), List.map_append, List.map_append] <;> rfl
          · rintro H2 ⟨e2, h2⟩
            have en : ((st : Int) + 1 + j + 1 - ((st : Int) + 1)).toNat = j + 1 := by omega
            rw [en] at h2
            refine ⟨_, rfl, Nat.zero_le _, fun t4 ht4 => ?_⟩
            have s4 := Same.upd (o := HO.lst []) ht4
            refine ⟨_, _, .lst (SqL.of (s4 _ _ h2)) (ints_dp _), .lst (SqL.of upd_same) .nil, ints_shaped _, nil_shaped, _, rfl, ?_⟩
            rw [ints_nil]
            cases hfr : (frees (ls.drop (st + 1)) (j + 1)).getLast? with
            | none =>
              rw [List.getLast?_eq_none_iff] at hfr
              rw [hfr]
              refine iteF ⟨_, rfl, ?_⟩
              have z := z _ (e.trans (e2.trans s4))
              rw [hfr] at z
              rw [show ((st + 1 + ([] : List Nat).getLast?.getD j : Nat) : Int) = (st : Int) + 1 + j by show ((st + 1 + j : Nat) : Int) = _; omega] at z
              exact z
            | some k =>
              obtain ⟨ks, ek⟩ := List.getLast?_eq_some_iff.mp hfr
              have z := z _ (e.trans (e2.trans s4))
              rw [hfr] at z
              have h2' := s4 _ _ h2
              rw [ek, List.map_append, List.map_append] at h2'
              rw [ek, List.map_append]
              have hne : (!(ks.map (fun k => (st : Int) + 1 + (k : Nat)) ++ [k].map fun k => (st : Int) + 1 + (k : Nat)).isEmpty) = true := by cases ks <;> rfl
              rw [hne]
              refine iteT ⟨_, rfl, _, rfl, D, _, _, _, rfl, rfl, SqL.of h2', atI_last _ _, ?_⟩
              rw [show ((st + 1 + (some k).getD j : Nat) : Int) = (st : Int) + 1 + (k : Nat) by show ((st + 1 + k : Nat) : Int) = _; omega] at z
              exact z
        · refine ⟨e, _, _, rfl, by omega, ?_⟩
          rw [hc]
          have c2 : ¬ ((L : Int) ≤ row + l.1 + 1) := fun z => c2 (decide_eq_true z)
          rw [frees_last hl', List.drop_drop, show st + 1 + (j + 1) = st + 1 + j + 1 by omega]
          conv => lhs; unfold cutR
          rw [if_neg c, if_neg c2]
    · rintro σ H1 ⟨e, row, v4, rfl, hj, hc⟩
      have en : (((xs.length : Nat) : Int) - ((st : Int) + 1)).toNat = ls.length - (st + 1) := by omega
      rw [en, List.drop_of_length_le (l := ls.drop (st + 1)) (by rw [List.length_drop]; exact Nat.le_refl _)] at hc
      refine ⟨_, rfl, a, xs, rfl, .inl (SqL.of (e _ _ ha)), ?_⟩
      have ec : cutA L ls st = xs.length := by
        unfold cutA
        rw [hc]
        show st + 1 + (ls.length - (st + 1)) = _
        omega
      have z := qq H1 e
      rw [ec] at z
      exact z
end
end K32

set_option Elab.async false
set_option linter.all false
set_option maxRecDepth 100000
set_option maxHeartbeats 4000000
namespace K32
open PySem PySem.Spec PyProof.Rows L2
/-! ### _law_pages -/
theorem pg_len2 (L : Nat) : ∀ (ls : List Ln) (d : Nat) (last : Int), (pg L ls d last).length = ls.length := pg_len L
def spPages (K : PySem.W.Frag) : Sp := fun vs H Q _ => ∃ (L : Nat) (a : Addr) (xs : List V) (ls : List Ln), vs = [.int L, .ref a] ∧ H a = some (.lst xs) ∧ Paired (LnAt H) xs ls ∧ ls.length ≤ 5000 ∧
  ∀ (H' : Hp) (p : Addr) (ys : List V), Same H H' → H p = none → H' p = some (.lst ys) → Paired (RwAt H') ys (pages L ls) → Q (.ref p) H'
theorem scPages : FnScope ["_law_length_here", "_law_lines_here", "_law_rows", "_law_start", "_law_at"] ["_law_length_here", "_law_lines_here"] (defScope sPages) := ⟨rfl, rfl, rfl, by decide +kernel, rfl, by decide +kernel, by decide +kernel⟩
section
variable {P : Program} {w : World} {K : PySem.W.Frag} {mg : Str → Option Value} {base : Heap}
theorem ok_pages (T : Tx K mg) : Ok P w K mg base CX0 2 "_law_pages" ["_law_length_here", "_law_lines_here"] (spPages K) := by
  refine Ok.mk' 19 T (st := sPages) (fun fd F => ok0 F scPages (fun vs H Q E h => ?_) fun cdv A outer s H vs Q E hr h => ?_) (fun _ _ _ _ _ _ us hl => match us, hl with | [_, _], _ => rfl)
  · obtain ⟨L, a, xs, ls, rfl, _⟩ := h
    rfl
  · obtain ⟨L, a, xs, ls, rfl, ha, hp, hz, qq⟩ := h
    have nd := scPages.nd
    refine ⟨_, pss_cons (ps_par (i := 2) (j := 3) rfl nd rfl rfl (by decide) rfl rfl (pa_cons (pe_lst pa_nil) (pa_cons pe_int pa_nil)) (by rfl))
      (pss_cons (ps_for PassesOwn.never rfl (pi_range1 (by rfl) (T.fre _ (by decide +kernel)) (pa_cons (pe_callB call_len_seq (by rfl) (T.fre _ (by decide +kernel)) PySem.boot_len (pa_cons (pv 1) pa_nil)) pa_nil)) (pg_name (i := 4) nd rfl (.inl rfl))
        (pss_one (ps_if (pt_cmpR op_eq (pv 4) (pv 3) (nomark _))
          (pss_cons (ps_app (pv 2) (pe_tup (pa_cons pe_bl (pa_cons pe_int pa_nil)))) (pss_one (ps_set (i := 3) nd rfl (.inl rfl) (pe_ok (ok_cut T) hr (by decide) pass0 (pa_cons (pv 0) (pa_cons (pv 1) (pa_cons (pv 4) pa_nil)))))))
          (pss_one (ps_app (pv 2) (pe_tup (pa_cons pe_bl (pa_cons (pe_op op_add (pe_op op_add (pe_ix ix_tup (pe_ix ix_list (pv 2) (pe_un un_neg pe_int) (fun _ _ => rfl)) pe_int (fun _ _ => rfl)) (pe_ix ix_tup (pe_ix ix_list (pv 1) (pv 4) (fun _ _ => rfl)) pe_int (fun _ _ => rfl))) pe_int) pa_nil))))))))
      (pss_one (ps_ret (pv 2)))), ?_⟩
    have hlx := Paired.length hp
    refine ⟨Nat.zero_le _, fun r hr0 => ⟨_, _, rfl, ?_⟩⟩
    have s0 := Same.upd (o := HO.lst []) hr0
    refine ⟨_, rfl, a, xs, rfl, .inl (SqL.of (s0 _ _ ha)), ((xs.length : Nat) : Int), rfl, by omega, by omega, for_range (lo := 0) (fun i σ H1 => Same H H1 ∧ ∃ (d : Nat) (last : Int) (v4 : Option V) (acc : List V) (rs : List Rw), σ = [some (.int L), some (.ref a), some (.ref r), some (.int ((i + d : Nat) : Int)), v4] ∧ H1 r = some (.lst acc) ∧
      Paired (fun v x => TupAt H1 (rwV x) v) acc rs ∧ rs.length = i ∧ i ≤ ls.length ∧ rs ++ pg L (ls.drop i) d last = pages L ls ∧ (d = 0 ∨ ∃ ini b, rs = ini ++ [(b, last)])) ?_ ?_ ?_⟩
    · exact ⟨s0, 0, 0, none, [], [], rfl, upd_same, .nil, rfl, Nat.zero_le _, rfl, .inl rfl⟩
    · rintro i σ H1 hi ⟨e, d, last, v4, acc, rs, rfl, hacc, pacc, hlen, hile, heq, hlast⟩
      have hi : i < ls.length := by omega
      obtain ⟨l, hl⟩ : ∃ l, ls[i]? = some l := ⟨_, List.getElem?_eq_getElem hi⟩
      have hlr := Paired.length pacc
      rw [drop_cons hl] at heq
      refine ⟨_, rfl, _, rfl, rfl, _, rfl, ite2 (fun c => ?_) (fun c => ?_)⟩
      · have hd : d = 0 := by
          have := V.int.inj (of_decide_eq_true c)
          omega
        subst hd
        refine ⟨_, rfl, ty_list hacc, by show 2 ≤ sizeLine; decide, fun t ht => ?_⟩
        obtain ⟨k1, k2, k3⟩ := app_tup (f := rwV) (r := (true, (0 : Int))) (xs := [.bl true, .int 0]) rfl hr0 e hacc pacc ht rfl
        refine ⟨r, acc, _, rfl, rfl, by rw [upd_ne (ne_of_none hacc ht)]; exact hacc, Evl.sz_lt (by omega), ?_⟩
        have ei : (0 : Int) + (i : Int) = ((i : Nat) : Int) := by omega
        refine ⟨_, rfl, _, rfl, _, rfl, L, i, a, xs, ls, ?_, k1 _ _ ha, Paired.imp (fun _ _ h => TupAt.ext h k1) hp, hi, hz, fun H3 e3 => ?_⟩
        · rw [ei]
        · refine ⟨k1.trans e3, cutR L (ls.drop (i + 1)) 0 0 none, 0, some (.int (0 + i)), _, rs ++ [(true, 0)], ?_, e3 _ _ k2, Paired.imp (fun _ _ h => TupAt.ext h e3) k3, by rw [List.length_append, hlen] <;> rfl, by omega, ?_, .inr ⟨rs, true, rfl⟩⟩
          · show [some (V.int L), some (.ref a), some (.ref r), some (.int ((cutA L ls i : Nat) : Int)), some (.int (0 + i))] = _
            unfold cutA
            rfl
          · rw [← heq, List.append_assoc]
            rfl
      · have hd : d ≠ 0 := fun z => c (by
          rw [z]
          show decide (V.int (0 + (i : Int)) = V.int ((i + 0 : Nat) : Int)) = true
          rw [show (0 : Int) + (i : Int) = ((i + 0 : Nat) : Int) by omega]
          exact decide_eq_true rfl)
        obtain ⟨ini, b, hrs⟩ := hlast.resolve_left hd
        obtain ⟨d', rfl⟩ : ∃ d', d = d' + 1 := ⟨d - 1, by omega⟩
        have pacc0 := pacc
        rw [hrs] at pacc
        obtain ⟨v, ini2, hacc2, hv⟩ : ∃ v ini2, acc = ini2 ++ [v] ∧ TupAt H1 (rwV (b, last)) v := by
          have hn : acc ≠ [] := fun z => by
            rw [z] at pacc
            have := Paired.length pacc
            simp at this
          have hl2 : acc[acc.length - 1]? = some (acc.getLast hn) := by rw [← List.getLast?_eq_getElem?, List.getLast?_eq_some_getLast hn]
          obtain ⟨y, h1, h2⟩ := Paired.at1 pacc hl2
          have el := Paired.length pacc
          rw [List.length_append] at el
          rw [show acc.length - 1 = ini.length by simp at el; omega] at h1
          rw [List.getElem?_append_right (Nat.le_refl _), Nat.sub_self] at h1
          cases h1
          exact ⟨_, acc.dropLast, (List.dropLast_concat_getLast hn).symm, h2⟩
        obtain ⟨tv, rfl, htv⟩ := hv
        obtain ⟨x, hx, t, rfl, htl⟩ := Paired.at' hp hl
        have hat : atI xs (0 + (i : Int)) = some (.ref t) := by
          have z := atI_nat hx
          rw [show ((i : Nat) : Int) = 0 + (i : Int) by omega] at z
          exact z
        refine ⟨_, rfl, ty_list hacc, _, rfl, _, rfl, r, acc, _, _, rfl, rfl, SqL.of hacc, by rw [hacc2]; exact atI_last _ _, tv, _, 1, .int last, rfl, rfl, SqT.of htv, rfl, _, rfl, _, rfl, a, xs, _, _, rfl, rfl, SqL.of (e _ _ ha), hat, t, _, 0, .int l.1, rfl, rfl, SqT.of (e _ _ htl), rfl, _, _, rfl, rfl, _, _, rfl, rfl, by show 2 ≤ sizeLine; decide, fun u hu => ?_⟩
        obtain ⟨k1, k2, k3⟩ := app_tup (f := rwV) (r := (false, last + l.1 + 1)) (xs := [.bl false, .int (last + l.1 + 1)]) rfl hr0 e hacc pacc0 hu rfl
        refine ⟨r, acc, _, rfl, rfl, by rw [upd_ne (ne_of_none hacc hu)]; exact hacc, Evl.sz_lt (by omega), ?_⟩
        refine ⟨k1, d', last + l.1 + 1, some (.int (0 + i)), _, rs ++ [(false, last + l.1 + 1)], ?_, k2, k3, by rw [List.length_append, hlen] <;> rfl, by omega, ?_, .inr ⟨rs, false, rfl⟩⟩
        · rw [show i + (d' + 1) = i + 1 + d' by omega] <;> rfl
        · rw [← heq, List.append_assoc]
          rfl
    · rintro σ H1 ⟨e, d, last, v4, acc, rs, rfl, hacc, pacc, hlen, hile, heq, hlast⟩
      have en : ((xs.length : Nat) : Int).toNat = ls.length := by omega
      rw [en] at heq
      rw [List.drop_of_length_le (Nat.le_refl _)] at heq
      have heq : rs = pages L ls := by
        rw [← heq]
        show rs = rs ++ []
        rw [List.append_nil]
      rw [heq] at pacc
      exact ⟨_, rfl, qq _ r acc e hr0 hacc pacc⟩
end
end K32

set_option Elab.async false
set_option linter.all false
set_option maxRecDepth 100000
set_option maxHeartbeats 4000000
namespace K32
open PySem PySem.Spec PyProof.Rows L2
/-! ### _law_standings -/
def lawTo (L i : Nat) : List Sd := (List.range i).flatMap fun h => kepts L (h + 1)
theorem lawTo_succ (L i : Nat) : lawTo L (i + 1) = lawTo L i ++ keptsTo L (i + 1) (i + 1) := by
  unfold lawTo
  rw [List.range_succ, List.flatMap_append]
  simp [kepts, keptsTo]
theorem lawTo_len (L : Nat) : ∀ i : Nat, i ≤ 9 → (lawTo L i).length ≤ 10 * i
  | 0, _ => by simp [lawTo]
  | i + 1, h => by
    have h1 := lawTo_len L i (by omega)
    have h2 := kepts_len L (i + 1) (i + 1)
    rw [lawTo_succ, List.length_append]
    omega
def opsTo (i : Nat) : List Sd := (List.range i).map fun h => ⟨.op, h + 1, 0⟩
theorem opsTo_succ (i : Nat) : opsTo (i + 1) = opsTo i ++ [⟨.op, i + 1, 0⟩] := by
  unfold opsTo
  rw [List.range_succ, List.map_append] <;> rfl
def spLSds (K : PySem.W.Frag) : Sp := fun vs H Q _ => ∃ L : Nat, vs = [.int L] ∧ 1 ≤ L ∧ L ≤ 9 ∧ ∀ (H' : Hp) (p : Addr) (ys : List V), Same H H' → H p = none → H' p = some (.lst ys) → Paired (SdAt H') ys (lawSds L) → Q (.ref p) H'
theorem scLSds : FnScope ["_law_length_here", "_law_found", "_law_high", "_law_back"] ["_law_length_here"] (defScope sLawSds) := ⟨rfl, rfl, rfl, by decide +kernel, rfl, by decide +kernel, by decide +kernel⟩
section
variable {P : Program} {w : World} {K : PySem.W.Frag} {mg : Str → Option Value} {base : Heap}
theorem ok_lsds (T : Tx K mg) : Ok P w K mg base CX0 1 "_law_standings" ["_law_length_here"] (spLSds K) := by
  refine Ok.mk' 20 T (st := sLawSds) (fun fd F => ok0 F scLSds (fun vs H Q E h => ?_) fun cdv A outer s H vs Q E hr h => ?_) (fun _ _ _ _ _ _ us hl => match us, hl with | [_], _ => rfl)
  · obtain ⟨L, rfl, _⟩ := h
    rfl
  · obtain ⟨L, rfl, hL1, hL, qq⟩ := h
    have nd := scLSds.nd
    refine ⟨_, pss_cons (ps_set (i := 1) nd rfl (.inl rfl) (pe_lst pa_nil))
      (pss_cons (ps_for PassesOwn.never rfl (pi_range2 (by rfl) (T.fre _ (by decide +kernel)) (pa_cons pe_int (pa_cons (pe_op op_add (pv 0) pe_int) pa_nil))) (pg_name (i := 2) nd rfl (.inr rfl))
        (pss_one (ps_set (i := 1) nd rfl (.inl rfl) (pe_op op_cat (pv 1) (pe_lc (own := [("_law_back", 3)]) (g := gName 3) rfl nd (pi_range1 (by rfl) (T.fre _ (by decide +kernel)) (pa_cons (pv 2) pa_nil)) (blkOk_by (N := ["_law_length_here", "_law_found", "_law_high", "_law_back"]) (sc := defScope sLawSds) (by decide +kernel))
          (fun _ _ _ _ _ => pg_name (i := 3) nd rfl (Or.inl rfl)) (fun _ _ _ _ _ => pts_one (PW.pt (pw_or (pt_cmpR op_lt (pv 2) (pv 0) (nomark _)) (pw_or1 (pt_cmpR op_gt (pv 3) pe_int (nomark _)))))) (fun _ _ _ _ _ => pe_tup (pa_cons pe_str (pa_cons (pv 2) (pa_cons (pv 3) pa_nil)))))))))
      (pss_one (ps_ret (pe_op op_cat (pe_op op_cat (pv 1) (pe_lc (own := [("_law_high", 2)]) (g := gName 2) (tt := tYes) rfl nd (pi_range2 (by rfl) (T.fre _ (by decide +kernel)) (pa_cons pe_int (pa_cons (pv 0) pa_nil))) (blkOk_by (N := ["_law_length_here", "_law_found", "_law_high", "_law_back"]) (sc := defScope sLawSds) (by decide +kernel))
          (fun _ _ _ _ _ => pg_name (i := 2) nd rfl (Or.inl rfl)) (fun _ _ _ _ _ => pts_nil) (fun _ _ _ _ _ => pe_tup (pa_cons pe_str (pa_cons (pv 2) (pa_cons pe_int pa_nil))))))
        (pe_lst (pa_cons (pe_tup (pa_cons pe_str (pa_cons pe_int (pa_cons pe_int pa_nil)))) pa_nil)))))), ?_⟩
    refine ⟨Nat.zero_le _, fun f0 hf0 => ?_⟩
    refine ⟨_, rfl, _, _, rfl, rfl, 1, (L : Int) + 1, rfl, ⟨by decide, by decide, by omega, by omega⟩, for_range (lo := 1) (fun i σ H1 => Same H H1 ∧ ∃ (f : Addr) (vh : Option V) (acc : List V), σ = [some (.int L), some (.ref f), vh, none] ∧ H1 f = some (.lst acc) ∧ Paired (fun v s => TupAt H1 (sdV s) v) acc (lawTo L i)) ?_ ?_ ?_⟩
    · exact ⟨Same.upd hf0, f0, none, [], rfl, upd_same, .nil⟩
    · rintro i σ H1 hi ⟨e, f, vh, acc, rfl, hf, pacc⟩
      have hi : i < L := by omega
      have en : ((1 : Int) + i).toNat = i + 1 := by omega
      refine ⟨_, rfl, _, rfl, 1 + (i : Int), rfl, by omega, by omega, fun D hD => lc_range (lo := 0) (n := ((1 : Int) + i).toNat) (fun j H2 => Same H1 H2 ∧ ∃ acc2, H2 D = some (.lst acc2) ∧ Paired (fun v s => TupAt H2 (sdV s) v) acc2 (keptsTo L (i + 1) j)) ?_ ?_ ?_⟩
      · exact ⟨Same.upd hD, [], upd_same, .nil⟩
      · rintro j H2 hj ⟨e2, acc2, hacc2, pacc2⟩
        rw [en] at hj
        have h2 := kepts_len L (i + 1) j
        have hl2 := Paired.length pacc2
        have step : (i + 1 < L ∨ 0 < j) → ∀ t, H2 t = none → ∃ acc, (upd H2 t (.tup [.str "kept", .int (1 + i), .int (0 + j)])) D = some (.lst acc) ∧ acc.length < sizeLine ∧ Same H1 (upd (upd H2 t (.tup [.str "kept", .int (1 + i), .int (0 + j)])) D (.lst (acc ++ [.ref t]))) ∧
            ∃ acc2, (upd (upd H2 t (.tup [.str "kept", .int (1 + i), .int (0 + j)])) D (.lst (acc ++ [.ref t]))) D = some (.lst acc2) ∧ Paired (fun v s => TupAt (upd (upd H2 t (.tup [.str "kept", .int (1 + i), .int (0 + j)])) D (.lst (acc ++ [.ref t]))) (sdV s) v) acc2 (keptsTo L (i + 1) (j + 1)) := fun c t ht => by
          have key := app_tup (f := sdV) (r := (⟨.kp, i + 1, j⟩ : Sd)) (xs := [.str "kept", .int (1 + i), .int (0 + j)]) (by
            show _ = [V.str "kept", .int ((i + 1 : Nat) : Int), .int (j : Int)]
            rw [show ((i + 1 : Nat) : Int) = 1 + (i : Int) by omega, show (0 : Int) + (j : Int) = (j : Int) by omega] <;> rfl) hD e2 hacc2 pacc2 ht rfl
          refine ⟨acc2, by rw [upd_ne (ne_of_none hacc2 ht)]; exact hacc2, Evl.sz_lt (by omega), key.1, _, key.2.1, ?_⟩
          rw [keptsTo_pos c]
          exact key.2.2
        refine ⟨rfl, _, rfl, _, rfl, _, _, rfl, rfl, _, rfl, ite2 (fun c => ?_) (fun c => ?_)⟩
        · have c := of_decide_eq_true c
          exact iteT ⟨_, rfl, _, rfl, by show 3 ≤ sizeLine; decide, fun t ht => step (by omega) t ht⟩
        · have c : ¬ (1 + (i : Int) < L) := fun z => c (decide_eq_true z)
          refine ⟨_, rfl, _, _, rfl, rfl, _, rfl, ite2 (fun c2 => ?_) (fun c2 => ?_)⟩
          · have c2 := of_decide_eq_true c2
            exact ⟨_, rfl, _, rfl, by show 3 ≤ sizeLine; decide, fun t ht => step (by omega) t ht⟩
          · have c2 : ¬ ((0 : Int) < 0 + j) := fun z => c2 (decide_eq_true z)
            refine ⟨e2, acc2, hacc2, ?_⟩
            rw [keptsTo_neg (by omega)]
            exact pacc2
      · rintro H2 ⟨e2, acc2, hacc2, pacc2⟩
        rw [en] at pacc2
        have h1 := lawTo_len L i (by omega)
        have h2 := kepts_len L (i + 1) (i + 1)
        refine ⟨f, D, acc, acc2, rfl, rfl, e2 _ _ hf, hacc2, ?_, fun p hp => ?_⟩
        · rw [Paired.length pacc, Paired.length pacc2, sizeLine_eq]
          omega
        · have s3 := Same.upd (o := HO.lst (acc ++ acc2)) hp
          refine ⟨e.trans (e2.trans s3), p, _, _, rfl, upd_same, ?_⟩
          rw [lawTo_succ]
          exact Paired.app (Paired.imp (fun _ _ h => TupAt.ext h (e2.trans s3)) pacc) (Paired.imp (fun _ _ h => TupAt.ext h s3) pacc2)
    · rintro σ H1 ⟨e, f, vh, acc, rfl, hf, pacc⟩
      have en : ((L : Int) + 1 - 1).toNat = L := by omega
      rw [en] at pacc
      have en2 : ((L : Int) - 1).toNat = L - 1 := by omega
      refine ⟨_, rfl, _, rfl, 1, (L : Int), rfl, ⟨by decide, by decide, by omega, by omega⟩, fun D hD => lc_range (lo := 1) (n := ((L : Int) - 1).toNat) (fun j H2 => Same H1 H2 ∧ ∃ acc2, H2 D = some (.lst acc2) ∧ Paired (fun v s => TupAt H2 (sdV s) v) acc2 (opsTo j)) ?_ ?_ ?_⟩
      · exact ⟨Same.upd hD, [], upd_same, .nil⟩
      · rintro j H2 hj ⟨e2, acc2, hacc2, pacc2⟩
        have hl2 := Paired.length pacc2
        have hl3 : (opsTo j).length = j := by simp [opsTo]
        refine ⟨rfl, _, rfl, by show 3 ≤ sizeLine; decide, fun t ht => ?_⟩
        have key := app_tup (f := sdV) (r := (⟨.op, j + 1, 0⟩ : Sd)) (xs := [.str "open", .int (1 + j), .int 0]) (by
          show _ = [V.str "open", .int ((j + 1 : Nat) : Int), .int ((0 : Nat) : Int)]
          rw [show ((j + 1 : Nat) : Int) = 1 + (j : Int) by omega] <;> rfl) hD e2 hacc2 pacc2 ht rfl
        refine ⟨acc2, by rw [upd_ne (ne_of_none hacc2 ht)]; exact hacc2, Evl.sz_lt (by omega), key.1, _, key.2.1, ?_⟩
        rw [opsTo_succ]
        exact key.2.2
      · rintro H2 ⟨e2, acc2, hacc2, pacc2⟩
        rw [en2] at pacc2
        have h1 := lawTo_len L L (by omega)
        have h2 : (opsTo (L - 1)).length = L - 1 := by simp [opsTo]
        refine ⟨f, D, acc, acc2, rfl, rfl, e2 _ _ hf, hacc2, ?_, fun p hp => ⟨by show 3 ≤ sizeLine; decide, fun t ht => ⟨by show 1 ≤ sizeLine; decide, fun l hl => ⟨p, l, acc ++ acc2, [.ref t], rfl, rfl, ?_, upd_same, ?_, fun p2 hp2 => ?_⟩⟩⟩⟩
        · rw [Paired.length pacc, Paired.length pacc2, sizeLine_eq]
          omega
        · exact Same.upd hl _ _ (Same.upd ht _ _ upd_same)
        · rw [List.length_append, Paired.length pacc, Paired.length pacc2, sizeLine_eq]
          show _ + 1 ≤ _
          omega
        · have s3 := Same.upd (o := HO.lst (acc ++ acc2)) hp
          have s4 := Same.upd (o := HO.tup [.str "top", .int 0, .int 0]) ht
          have s5 := Same.upd (o := HO.lst [.ref t]) hl
          have s6 := Same.upd (o := HO.lst (acc ++ acc2 ++ [.ref t])) hp2
          refine qq _ p2 _ (e.trans (e2.trans (s3.trans (s4.trans (s5.trans s6))))) (Same.none (e.trans (e2.trans (s3.trans (s4.trans s5)))) hp2) upd_same ?_
          exact Paired.app (Paired.app (Paired.imp (fun _ _ h => TupAt.ext h (e2.trans (s3.trans (s4.trans (s5.trans s6))))) pacc) (Paired.imp (fun _ _ h => TupAt.ext h (s3.trans (s4.trans (s5.trans s6)))) pacc2)) (.cons ⟨t, rfl, s6 _ _ (s5 _ _ upd_same)⟩ .nil)
end
end K32

set_option Elab.async false
set_option linter.all false
set_option maxRecDepth 100000
set_option maxHeartbeats 4000000
namespace K32
open PySem PySem.Spec PyProof.Rows L2
/-! ### _law_behind, _law_resumed, _law_is_block -/
theorem cutV_from (xs : List V) (n : Nat) : cutV xs (some (n : Int)) none = xs.drop n := by
  unfold cutV
  rw [HT.sIx_nat, HT.sIx_none]
  by_cases h : n ≤ xs.length
  · rw [Nat.min_eq_left h, List.take_of_length_le (by rw [List.length_drop]; exact Nat.le_refl _)]
  · rw [Nat.min_eq_right (by omega), Nat.sub_self, List.take_zero, List.drop_of_length_le (by omega)]
theorem cnt_append (a b : List Blk) : cnt (a ++ b) = cnt a + cnt b := by simp [cnt]
theorem cnt_rep (n : Nat) (b : Blk) : cnt (List.replicate n b) = n * b.1 := by simp [cnt]
theorem cnt_lead {L : Nat} {s : Sd} (hL : L ≤ 9) (h : s.ok L = true) : cnt (lead s) ≤ 20 := by
  have hle := ok_le h
  unfold lead
  split
  · split
    · rw [cnt_rep]
      omega
    · rw [cnt_append, cnt_rep, cnt_rep]
      omega
  · rw [cnt_rep]
    omega
theorem len_linesB (bs : List Blk) : (linesB bs).1.length = cnt bs := by
  unfold linesB
  rw [len_fold]
  simp
def spBehind (K : PySem.W.Frag) : Sp := fun vs H Q _ => ∃ (L : Nat) (v : V) (s : Sd) (a : Addr) (xs : List V) (bs : List Blk), vs = [.int L, v, .ref a] ∧ L ≤ 9 ∧ SdK K H v s ∧ s.ok L = true ∧ H a = some (.lst xs) ∧ Paired (BlAt H) xs bs ∧ cnt bs ≤ 2000 ∧ bs.length ≤ 2000 ∧
  ∀ (H' : Hp) (p : Addr) (ys : List V), Same H H' → H' p = some (.lst ys) → Paired (RwAt H') ys (behind L s bs) → Q (.ref p) H'
theorem scBehind : FnScope ["_law_length_here", "_law_standing_here", "_law_blocks", "_law_lead_here"] ["_law_length_here", "_law_standing_here", "_law_blocks"] (defScope sBehind) := ⟨rfl, rfl, rfl, by decide +kernel, rfl, by decide +kernel, by decide +kernel⟩
section
variable {P : Program} {w : World} {K : PySem.W.Frag} {mg : Str → Option Value} {base : Heap}
theorem ok_behind (T : Tx K mg) : Ok P w K mg base CX0 3 "_law_behind" ["_law_length_here", "_law_standing_here", "_law_blocks"] (spBehind K) := by
  refine Ok.mk' 26 T (st := sBehind) (fun fd F => ok0 F scBehind (fun vs H Q E h => ?_) fun cdv A outer s H vs Q E hr h => ?_) (fun _ _ _ _ _ _ us hl => match us, hl with | [_, _, _], _ => rfl)
  · obtain ⟨L, v, s, a, xs, bs, rfl, _⟩ := h
    rfl
  · obtain ⟨L, v, s, a, xs, bs, rfl, hL, hv, ok, ha, hb, hc, hbl, qq⟩ := h
    have nd := scBehind.nd
    refine ⟨_, pss_cons (ps_set (i := 3) nd rfl (.inl rfl) (pe_ok (ok_lead T) hr (by decide) pass0 (pa_cons (pv 1) pa_nil)))
      (pss_one (ps_ret (pe_slice sl_list (pe_ok (ok_pages T) hr (by decide) pass0 (pa_cons (pv 0) (pa_cons (pe_ix ix_tup (pe_ok (ok_lines T) hr (by decide) pass0 (pa_cons (pe_op op_cat (pv 3) (pv 2)) pa_nil)) pe_int (fun _ _ => rfl)) pa_nil)))
        (po_some (pe_callB call_len_seq (by rfl) (T.fre _ (by decide +kernel)) PySem.boot_len (pa_cons (pe_ix ix_tup (pe_ok (ok_lines T) hr (by decide) pass0 (pa_cons (pv 3) pa_nil)) pe_int (fun _ _ => rfl)) pa_nil))) po_none))), ?_⟩
    have hcl := cnt_lead hL ok
    refine ⟨_, rfl, v, L, s, rfl, hv, ok, hL, fun H1 l ls e1 hl0 hl pl => ?_⟩
    have hlx := Paired.length hb
    have hlen : ls.length ≤ 20 := by
      have hle := ok_le ok
      rw [Paired.length pl]
      unfold lead
      split
      · split
        · rw [List.length_replicate]
          omega
        · rw [List.length_append, List.length_replicate, List.length_replicate]
          omega
      · rw [List.length_replicate]
        omega
    refine ⟨_, rfl, _, rfl, _, rfl, l, a, ls, xs, rfl, rfl, hl, e1 _ _ ha, ?_, fun m hm => ?_⟩
    · rw [sizeLine_eq]
      omega
    have s2 := Same.upd (o := HO.lst (ls ++ xs)) hm
    refine ⟨m, _, lead s ++ bs, rfl, upd_same, Paired.app (Paired.imp (fun _ _ h => TupAt.ext h s2) pl) (Paired.imp (fun _ _ h => TupAt.ext h (e1.trans s2)) hb), by rw [cnt_append]; omega, fun H3 t3 l3 ls3 e3 _ ht3 hl3 pl3 => ?_⟩
    refine ⟨t3, _, 0, _, rfl, rfl, SqT.of ht3, rfl, L, l3, ls3, _, rfl, hl3, pl3, by rw [len_linesB, cnt_append]; omega, fun H4 p4 ys4 e4 hp0 hp4 pp4 => ?_⟩
    have eA := e1.trans (s2.trans (e3.trans e4))
    refine ⟨_, rfl, l, ls, lead s, rfl, e4 _ _ (e3 _ _ (s2 _ _ hl)), Paired.imp (fun _ _ h => TupAt.ext h (s2.trans (e3.trans e4))) pl, by omega, fun H5 t5 l5 ls5 e5 _ ht5 hl5 pl5 => ?_⟩
    refine ⟨t5, _, 0, _, rfl, rfl, SqT.of ht5, rfl, l5, ls5, rfl, .inl (SqL.of hl5), _, rfl, p4, ys4, rfl, SqL.of (e5 _ _ hp4), fun p6 hp6 => ?_⟩
    have s6 := Same.upd (o := HO.lst (cutV ys4 (some ((ls5.length : Nat) : Int)) none)) hp6
    refine qq _ p6 _ (eA.trans (e5.trans s6)) upd_same ?_
    have eb : behind L s bs = (pages L (linesB (lead s ++ bs)).1).drop ls5.length := by
      unfold behind
      rw [Paired.length pl5]
    have key := Paired.drop' ls5.length (Paired.imp (fun _ _ h => TupAt.ext h (e5.trans s6)) pp4)
    rw [← eb, ← cutV_from] at key
    exact key
/-! _law_resumed -/
def spLRes (K : PySem.W.Frag) : Sp := fun vs H Q _ => ∃ (L : Nat) (v : V) (s : Sd) (a : Addr) (xs : List V) (bs : List Blk), vs = [.int L, v, .ref a] ∧ L ≤ 9 ∧ SdK K H v s ∧ s.ok L = true ∧ H a = some (.lst xs) ∧ Paired (BlAt H) xs bs ∧ cnt bs ≤ 2000 ∧
  ∀ (H' : Hp) (p : Addr) (ys : List V), Same H H' → H' p = some (.lst ys) → Paired (RwAt H') ys (resumed L s bs) → Q (.ref p) H'
theorem scLRes : FnScope ["_law_length_here", "_law_standing_here", "_law_blocks", "_law_page", "_law_count", "_law_space", "_law_kept", "_law_is_new"] ["_law_length_here", "_law_standing_here", "_law_blocks"] (defScope sResumed) := ⟨rfl, rfl, rfl, by decide +kernel, rfl, by decide +kernel, by decide +kernel⟩
theorem size_fold (L : Nat) : ∀ (bs : List Blk) (g : Pg), (bs.foldl (Pg.block L) g).size = g.size + cnt bs
  | [], g => by simp [cnt]
  | b :: bs, g => by
    rw [List.foldl_cons, size_fold L bs, size_block]
    simp [cnt]
    omega
theorem ok_lres (T : Tx K mg) : Ok P w K mg base CX0 5 "_law_resumed" ["_law_length_here", "_law_standing_here", "_law_blocks"] (spLRes K) := by
  refine Ok.mk' 27 T (st := sResumed) (fun fd F => ok0 F scLRes (fun vs H Q E h => ?_) fun cdv A outer s H vs Q E hr h => ?_) (fun _ _ _ _ _ _ us hl => match us, hl with | [_, _, _], _ => rfl)
  · obtain ⟨L, v, s, a, xs, bs, rfl, _⟩ := h
    rfl
  · obtain ⟨L, v, s, a, xs, bs, rfl, hL, hv, ok, ha, hb, hc, qq⟩ := h
    have nd := scLRes.nd
    obtain ⟨f1, F1, b1⟩ := fn_res (P := P) (w := w) (base := base) T
    obtain ⟨f2, F2, g2, b2⟩ := fn_block (P := P) (w := w) (base := base) T
    obtain ⟨f3, F3, b3⟩ := fn_fin (P := P) (w := w) (base := base) T
    refine ⟨_, pss_cons (ps_set (i := 3) nd rfl (.inl rfl) (pe_smeth (pe_glob (v := .ref (PC K)) (by rfl) (T.glo "Page" (by decide +kernel)) rfl) T.res F1 hr b1 pass0 (pa_cons (pv 0) (pa_cons (pv 1) pa_nil))))
      (pss_cons (ps_for PassesOwn.never rfl (pi_list (pv 2)) (pg_tup rfl (pgs_cons (pg_name (i := 4) nd rfl (.inl rfl)) (pgs_cons (pg_name (i := 5) nd rfl (.inl rfl)) (pgs_cons (pg_name (i := 6) nd rfl (.inl rfl)) (pgs_cons (pg_name (i := 7) nd rfl (.inl rfl)) pgs_nil)))))
        (pss_one (ps_expr (pe_methN (pv 3) T.cls (T.meth "block" (by decide +kernel)) F2 (hr.mono (by decide)) b2 pass0 (pa_cons (pv 4) pa_nil) (pk_cons (pv 5) (pk_cons (pv 6) (pk_cons (pv 7) pk_nil)))))))
      (pss_one (ps_ret (pe_meth0 (pv 3) T.cls (T.meth "finish" (by decide +kernel)) F3 (hr.mono (by decide)) b3 .nil pass0)))), ?_⟩
    refine ⟨rfl, _, rfl, _, rfl, L, v, s, rfl, hL, hv, ok, fun H1 p on1 => ?_⟩
    have same : ∀ {H' : Hp} {g : Pg}, On H (PC K) H' p L g → Same H H' := fun on => by
      obtain ⟨_, _, _, _, _, _, _, _, _, _, sm, _⟩ := on
      exact sm
    have ins : ∀ {H' : Hp} {g : Pg}, On H (PC K) H' p L g → ∃ dx q l u, H' p = some (.ins (PC K) dx (fsOf L q l g.high g.bar u)) := fun on => by
      obtain ⟨q, l, _, _, _, ⟨dx, u, h1, _⟩, _⟩ := on
      exact ⟨dx, q, l, u, h1⟩
    refine ⟨_, rfl, a, rfl, ⟨_, SqL.of (same on1 _ _ ha)⟩, for_list (xs := xs) (fun i σ H2 => ∃ v4 v5 v6 v7, σ = [some (.int L), some v, some (.ref a), some (.ref p), v4, v5, v6, v7] ∧ On H (PC K) H2 p L ((bs.take i).foldl (Pg.block L) (Pg.res s))) ?_ ?_ ?_ ?_⟩
    · exact ⟨none, none, none, none, rfl, on1⟩
    · rintro i σ H2 _ ⟨v4, v5, v6, v7, rfl, on2⟩
      exact SqL.of (same on2 _ _ ha)
    · rintro i x σ H2 hx ⟨v4, v5, v6, v7, rfl, on2⟩
      obtain ⟨⟨n, sp, ke, pg⟩, hbi, t, rfl, ht⟩ := Paired.at1 hb hx
      obtain ⟨dx, q, l, u, h1⟩ := ins on2
      have sz := size_fold L (bs.take i) (Pg.res s)
      have ct := cnt_take bs i _ hbi
      have z0 : (Pg.res s).size = 0 := rfl
      refine ⟨t, _, rfl, SqT.of (same on2 _ _ ht), rfl, _, _, rfl, _, _, rfl, _, _, rfl, _, _, rfl, rfl, ?_⟩
      refine ⟨_, rfl, p, dx, _, rfl, h1, by kernel_rfl, _, rfl, _, rfl, _, rfl, _, rfl, rfl, rfl, p, H, L, _, (n, sp, ke, pg), rfl, on2, by dsimp only at ct ⊢; omega, fun H3 on3 => ?_⟩
      refine ⟨_, _, _, _, rfl, ?_⟩
      rw [take_succ' hbi, List.foldl_append]
      exact on3
    · rintro σ H2 ⟨v4, v5, v6, v7, rfl, on2⟩
      rw [List.take_of_length_le (by rw [Paired.length hb]; exact Nat.le_refl _)] at on2
      obtain ⟨dx, q, l, u, h1⟩ := ins on2
      have sz := size_fold L bs (Pg.res s)
      have z0 : (Pg.res s).size = 0 := rfl
      exact ⟨_, rfl, p, dx, _, rfl, h1, by kernel_rfl, p, H, L, _, rfl, on2, by omega, fun H3 D ys e3 hD pD => qq H3 D ys e3 hD pD⟩
/-! _law_is_block -/
def spIsB : Sp := fun vs H Q _ => ∃ (v : V) (b : Blk), vs = [v] ∧ BlAt H v b ∧ b.1 ≤ 200 ∧ 0 ≤ b.2.1 ∧ b.2.1 ≤ 2 ∧ Q (.bl true) H
theorem scIsB : FnScope ["_law_block_here"] ["_law_block_here"] (defScope sIsBlk) := ⟨rfl, rfl, rfl, by decide +kernel, rfl, by decide +kernel, by decide +kernel⟩
theorem ok_isb (T : Tx K mg) : Ok P w K mg base CX0 2 "_law_is_block" ["_law_block_here"] spIsB := by
  refine Ok.mk' 28 T (st := sIsBlk) (fun fd F => ok0 F scIsB (fun vs H Q E h => ?_) fun cdv A outer s H vs Q E hr h => ?_) (fun _ _ _ _ _ _ us hl => match us, hl with | [_], _ => rfl)
  · obtain ⟨v, b, rfl, _⟩ := h
    rfl
  · obtain ⟨v, ⟨n, sp, ke, pg⟩, rfl, ⟨t, rfl, ht⟩, h1, h2, h3, qq⟩ := h
    refine ⟨_, pss_cons (ps_if (PW.pt (pw_or (pt_not (pt_val (pe_callB call_isi (by rfl) (T.fre _ (by decide +kernel)) boot_isi (pa_cons (pv 0) (pa_cons (pe_bltn (v := .ty "tuple") (by rfl) (T.fre _ (by decide +kernel)) boot_tuple' rfl) pa_nil)))))
        (pw_or (pt_cmpR op_ne (pe_callB call_len_seq (by rfl) (T.fre _ (by decide +kernel)) PySem.boot_len (pa_cons (pv 0) pa_nil)) pe_int (nomark _))
        (pw_or (pt_not (pt_val (pe_ok (ok_lnum T) hr (by decide) pass0 (pa_cons (pe_ix ix_tup (pv 0) pe_int (fun _ _ => rfl)) pa_nil))))
        (pw_or1 (pt_not (pt_val (pe_ok (ok_lnum T) hr (by decide) pass0 (pa_cons (pe_ix ix_tup (pv 0) pe_int (fun _ _ => rfl)) pa_nil)))))))))
        (pss_one (ps_ret pe_bl)) pss_nil)
      (pss_one (ps_ret (pe_and (pe_chain op_le op_le pe_int (pe_ix ix_tup (pv 0) pe_int (fun _ _ => rfl)) pe_int) (pe_and (pe_chain op_le op_le pe_int (pe_ix ix_tup (pv 0) pe_int (fun _ _ => rfl)) pe_int)
        (pe_and (pe_callB call_isi (by rfl) (T.fre _ (by decide +kernel)) boot_isi (pa_cons (pe_ix ix_tup (pv 0) pe_int (fun _ _ => rfl)) (pa_cons (pe_bltn (v := .ty "bool") (by rfl) (T.fre _ (by decide +kernel)) boot_bool' rfl) pa_nil)))
        (pe_one (pe_callB call_isi (by rfl) (T.fre _ (by decide +kernel)) boot_isi (pa_cons (pe_ix ix_tup (pv 0) pe_int (fun _ _ => rfl)) (pa_cons (pe_bltn (v := .ty "bool") (by rfl) (T.fre _ (by decide +kernel)) boot_bool' rfl) pa_nil))))))))), ?_⟩
    refine ⟨_, rfl, _, _, _, _, true, rfl, .ty "tuple", .base (.tup ht), kit_ty (by decide +kernel), true, rfl, iteF ⟨_, rfl, t, _, rfl, .inr (SqT.of ht), rfl, _, rfl, iteF ⟨_, rfl, t, _, 0, .int n, rfl, rfl, SqT.of ht, rfl, _, _, rfl, .int _, _, rfl, iteF ⟨_, rfl, t, _, 1, .int sp, rfl, rfl, SqT.of ht, rfl, _, _, rfl, .int _, _, rfl, iteF ?_⟩⟩⟩⟩
    refine ⟨_, rfl, t, _, 0, .int n, rfl, rfl, SqT.of ht, rfl, 0, (n : Int), rfl, rfl, _, rfl, ite2 (fun _ => ⟨(n : Int), 200, rfl, rfl, _, rfl, ite2 (fun _ => ?_) (fun c => absurd (decide_eq_true (by dsimp only at h1; omega)) c)⟩) (fun c => absurd (decide_eq_true (by omega)) c)⟩
    refine ⟨_, rfl, t, _, 1, .int sp, rfl, rfl, SqT.of ht, rfl, 0, sp, rfl, rfl, _, rfl, ite2 (fun _ => ⟨sp, 2, rfl, rfl, _, rfl, ite2 (fun _ => ?_) (fun c => absurd (decide_eq_true h3) c)⟩) (fun c => absurd (decide_eq_true h2) c)⟩
    refine ⟨_, rfl, t, _, 2, .bl ke, rfl, rfl, SqT.of ht, rfl, _, _, _, _, true, rfl, .ty "bool", .base (.bl ke), kit_ty (by decide +kernel), true, rfl, iteT ?_⟩
    exact ⟨_, rfl, t, _, 3, .bl pg, rfl, rfl, SqT.of ht, rfl, _, _, _, _, true, rfl, .ty "bool", .base (.bl pg), kit_ty (by decide +kernel), qq⟩
end
end K32

set_option Elab.async false
set_option linter.all false
set_option maxRecDepth 100000
set_option maxHeartbeats 4000000
namespace K32
open PySem PySem.Spec PyProof.Rows L2
/-! ### odd values -/
theorem del_sub {H : Hp} {p : Addr} : Same (del H p) H := fun b o h => by
  by_cases z : b = p
  · rw [z, del_same] at h
    cases h
  · rw [del_ne z] at h
    exact h
theorem SameX.del {p : Addr} {H H' : Hp} (s : SameX p H H') : Same (del H p) (del H' p) := fun b o h => by
  by_cases z : b = p
  · rw [z, del_same] at h
    cases h
  · rw [del_ne z] at h ⊢
    exact s b o z h
theorem del_at {H : Hp} {p t : Addr} {o : HO} (n : t ≠ p) (h : H t = some o) : (del H p) t = some o := by
  rw [del_ne n]
  exact h
theorem OddV.ext {K : PySem.W.Frag} {L : Nat} {H H' : Hp} {v : V} {d : PyData} (e : Same H H') (h : OddV K L H v d) : OddV K L H' v d := ⟨Dp.ext e h.dp, h.sh, h.th, Fm.ext e h.fm, h.bad, h.dl⟩
def toD : V → PyData
  | .bl b => .bool b
  | .int i => .int i
  | .str x => .str x
  | _ => .none
inductive Fl : V → Prop where
  | non : Fl .non
  | bl (b : Bool) : Fl (.bl b)
  | int {i : Int} (h : i.natAbs.log2 < 1920) : Fl (.int i)
  | str {x : Str} (hl : x.length ≤ 100) (hc : ∀ c ∈ x.cps.toList, c < 16 ^ 8) (ho : PyData.strOk x = true) : Fl (.str x)
inductive Fls : List V → Prop where
  | nil : Fls []
  | cons {v : V} {vs : List V} (h : Fl v) (r : Fls vs) : Fls (v :: vs)
theorem fli {i : Int} (h : -200000000000000000000 ≤ i ∧ i ≤ 200000000000000000000) : Fl (.int i) := by
  refine .int ?_
  have h1 : i.natAbs ≤ 200000000000000000000 := by omega
  by_cases z : i.natAbs = 0
  · rw [z]
    decide
  · exact Nat.lt_of_lt_of_le ((Nat.log2_lt z).mpr (Nat.lt_of_le_of_lt h1 (by decide : 200000000000000000000 < 2 ^ 100))) (by decide)
theorem Fl.flat {v : V} (h : Fl v) : Flat v := by
  cases h with
  | non => exact .non
  | bl b => exact .bl b
  | int h => exact .int h
  | str hl hc _ => exact .str hl hc
theorem Fl.flatP {v : V} (h : Fl v) : FlatP (toD v) := by
  cases h with
  | non => exact .non
  | bl b => exact .bl b
  | int h => exact .int _
  | str _ _ _ => exact .str _
theorem Fl.dp {K : PySem.W.Frag} {H : Hp} {v : V} (h : Fl v) : Dp K H v (toD v) := by
  cases h with
  | non => exact .non
  | bl b => exact .bl b
  | int h => exact .int _
  | str _ _ _ => exact .str _
theorem Fl.lay {v : V} (h : Fl v) : (toD v).canLay0 = true := by
  cases h with
  | non => simp [toD, PyData.canLay0]
  | bl b => simp [toD, PyData.canLay0]
  | int h => simp [toD, PyData.canLay0]
  | str _ _ ho => simpa [toD, PyData.canLay0] using ho
theorem Fl.dep {v : V} (h : Fl v) : (toD v).depth = 0 := by cases h <;> simp [toD, PyData.depth]
theorem Fls.flat {vs : List V} (h : Fls vs) : ∀ x ∈ vs, Flat x := by
  induction h with
  | nil =>
    intro x hx
    cases hx
  | cons h r ih =>
    intro x hx
    rcases List.mem_cons.mp hx with rfl | z
    · exact h.flat
    · exact ih x z
theorem Fls.dp {K : PySem.W.Frag} {H : Hp} {vs : List V} (h : Fls vs) : DpAll K H vs (vs.map toD) := by
  induction h with
  | nil => exact .nil
  | cons h r ih => exact .cons h.dp ih
theorem Fls.lay {vs : List V} (h : Fls vs) : PyData.canLayAll0 (vs.map toD) = true := by
  induction h with
  | nil => simp [PyData.canLayAll0]
  | cons h r ih => simp only [List.map_cons, PyData.canLayAll0, h.lay, ih, Bool.and_self]
theorem Fls.dep {vs : List V} (h : Fls vs) : PyData.depthAll (vs.map toD) ≤ 0 := by
  induction h with
  | nil => simp [PyData.depthAll]
  | cons h r ih =>
    have := h.dep
    simp only [List.map_cons, PyData.depthAll]
    omega
theorem Fls.tup_sh {vs : List V} (h : Fls vs) : SeqAt.shaped (.tuple (vs.map toD)) = true := shaped_of (by simp only [PyData.canLay0]; exact h.lay) (by
  have := h.dep
  simp only [PyData.depth]
  omega)
theorem Fls.lst_sh {vs : List V} (h : Fls vs) : SeqAt.shaped (.list (vs.map toD)) = true := shaped_of (by simp only [PyData.canLay0]; exact h.lay) (by
  have := h.dep
  simp only [PyData.depth]
  omega)
theorem Fls.three {vs : List V} (h : Fls vs) : ThreeFlat (.tuple (vs.map toD)) := fun a b c e => by
  injection e with e
  cases h with
  | nil => cases e
  | cons h1 h =>
    cases h with
    | nil => cases e
    | cons h2 h =>
      cases h with
      | nil => cases e
      | cons h3 h =>
        injection e with e1 e
        injection e with e2 e
        injection e with e3 e
        subst e1 e2 e3
        exact ⟨h1.flatP, h2.flatP, h3.flatP⟩
/-! what is refused, by its word -/
section
variable {L : Nat} {h b : Int}
theorem okT_no {w : Str} (n : okT L w h b = false) : badD L (.tuple [.str w, .int h, .int b]) = true := by
  show (!okT L w h b) = true
  rw [n] <;> rfl
theorem bad_top (n : ¬ (h = 0 ∧ b = 0)) : badD L (.tuple [.str "top", .int h, .int b]) = true := okT_no (by
  unfold okT
  rw [decide_eq_false fun z => n z.2, decide_eq_false fun z => absurd z.1 (by decide +kernel), decide_eq_false fun z => absurd z.1 (by decide +kernel)] <;> rfl)
theorem bad_open (n : ¬ (1 ≤ h ∧ h < L ∧ b = 0)) : badD L (.tuple [.str "open", .int h, .int b]) = true := okT_no (by
  unfold okT
  rw [decide_eq_false fun z => absurd z.1 (by decide +kernel), decide_eq_false fun z => n z.2, decide_eq_false fun z => absurd z.1 (by decide +kernel)] <;> rfl)
theorem bad_kept (n : ¬ (1 ≤ h ∧ h ≤ L ∧ 0 ≤ b ∧ b < h ∧ (h < L ∨ 0 < b))) : badD L (.tuple [.str "kept", .int h, .int b]) = true := okT_no (by
  unfold okT
  rw [decide_eq_false fun z => absurd z.1 (by decide +kernel), decide_eq_false fun z => absurd z.1 (by decide +kernel), decide_eq_false fun z => n z.2] <;> rfl)
theorem bad_word {w : Str} (n1 : w ≠ "top") (n2 : w ≠ "open") (n3 : w ≠ "kept") : badD L (.tuple [.str w, .int h, .int b]) = true := okT_no (by
  unfold okT
  rw [decide_eq_false fun z => n1 z.1, decide_eq_false fun z => n2 z.1, decide_eq_false fun z => n3 z.1] <;> rfl)
end
/-- the item's term makes an odd value -/
def MkO (K : PySem.W.Frag) (p : Addr) (L : Nat) (te : TE) (σ : L2.St) : Prop := ∀ (H : Hp) (Q : VK), H p ≠ none → (∀ v d H', Same H H' → OddV K L (del H' p) v d → Q v H') → te σ H Q
def MkA (K : PySem.W.Frag) (p : Addr) (L : Nat) (ta : TA) (σ : L2.St) (n : Nat) : Prop := ∀ (H : Hp) (Q : List V → Hp → Prop), H p ≠ none → (∀ vs H', Same H H' → vs.length = n → (∀ v ∈ vs, ∃ d, OddV K L (del H' p) v d) → Q vs H') → ta σ H Q
theorem p_same {H H' : Hp} {p : Addr} (e : Same H H') (h : H p ≠ none) : H' p ≠ none := fun z => h (Same.none e z)
section
variable {K : PySem.W.Frag} {p : Addr} {L : Nat} {te : TE} {ta : TA} {σ : L2.St} {n : Nat}
theorem MkA.nil : MkA K p L tNil σ 0 := fun H Q _ q => q [] H (fun _ _ z => z) rfl (fun v hv => nomatch hv)
theorem MkA.cons (h : MkO K p L te σ) (r : MkA K p L ta σ n) : MkA K p L (tCons te ta) σ (n + 1) := fun H Q hp q => h H _ hp fun v d H1 e1 o => r H1 _ (p_same e1 hp) fun vs H2 e2 hl ho => q (v :: vs) H2 (e1.trans e2) (by rw [List.length_cons, hl]) fun x hx => by
  rcases List.mem_cons.mp hx with rfl | z
  · exact ⟨d, o.ext (SameX.of e2).del⟩
  · exact ho x z
theorem mk_flat {v : V} (hf : Fl v) (hb : badD L (toD v) = true) (ev : ∀ (H : Hp) (Q : VK), Q v H → te σ H Q) : MkO K p L te σ := fun H Q hp q => ev H Q (q v (toD v) H (fun _ _ z => z) ⟨hf.dp, shaped_of hf.lay (by rw [hf.dep]; decide), fun a b c e => (by cases hf <;> cases e), .flat hf.flat, hb, by rw [hf.dep]; decide⟩)
theorem mk_tup {vs : List V} (hf : Fls vs) (hl : vs.length ≤ 10) (hb : badD L (.tuple (vs.map toD)) = true) (ev : ∀ (H : Hp) (Q : List V → Hp → Prop), Q vs H → ta σ H Q) : MkO K p L (tTup ta) σ := fun H Q hp q =>
  ev H _ ⟨by rw [sizeLine_eq]; omega, fun t ht => by
    have hx : (del (upd H t (.tup vs)) p) t = some (.tup vs) := del_at (fun z => hp (by rw [← z]; exact ht)) upd_same
    exact q _ _ _ (Same.upd ht) ⟨.tup (SqT.of hx) hf.dp, hf.tup_sh, hf.three, .tup (SqT.of hx) hl hf.flat, hb, by
      have := hf.dep
      simp only [PyData.depth]
      omega⟩⟩
theorem mk_lst {vs : List V} (hf : Fls vs) (hl : vs.length ≤ 10) (h0 : vs ≠ []) (ev : ∀ (H : Hp) (Q : List V → Hp → Prop), Q vs H → ta σ H Q) : MkO K p L (tLst ta) σ := fun H Q hp q =>
  ev H _ ⟨by rw [sizeLine_eq]; omega, fun t ht => by
    have hx : (del (upd H t (.lst vs)) p) t = some (.lst vs) := del_at (fun z => hp (by rw [← z]; exact ht)) upd_same
    exact q _ _ _ (Same.upd ht) ⟨.lst (SqL.of hx) hf.dp, hf.lst_sh, fun a b c e => (by cases e), .lst (SqL.of hx) h0 hl hf.flat, rfl, by
      have := hf.dep
      simp only [PyData.depth]
      omega⟩⟩
theorem fl_str (x : Str) (h : (decide (x.length ≤ 100) && (x.cps.toList.all fun c => decide (c < 16 ^ 8)) && PyData.strOk x) = true) : Fl (.str x) := by
  rw [Bool.and_eq_true, Bool.and_eq_true, decide_eq_true_eq, List.all_eq_true] at h
  exact .str h.1.1 (fun c hc => of_decide_eq_true (h.1.2 c hc)) h.2
/-- (('top', 0, 0),) -/
theorem mk_nest1 : MkO K p L (tTup (tCons (tTup (tCons (tC (.str "top")) (tCons (tC (.int 0)) (tCons (tC (.int 0)) tNil)))) tNil)) σ := fun H Q hp q => by
  have hf : Fls [.str "top", .int 0, .int 0] := .cons (fl_str _ (by decide +kernel)) (.cons (fli (by omega)) (.cons (fli (by omega)) .nil))
  refine ⟨by show 3 ≤ sizeLine; decide, fun t ht => ⟨by show 1 ≤ sizeLine; decide, fun u hu => ?_⟩⟩
  have n1 : t ≠ p := fun z => hp (by rw [← z]; exact ht)
  have n2 : u ≠ p := fun z => p_same (Same.upd ht) hp (by rw [← z]; exact hu)
  have h2 : (del (upd (upd H t (.tup [.str "top", .int 0, .int 0])) u (.tup [.ref t])) p) u = some (.tup [.ref t]) := del_at n2 upd_same
  have h1 : (del (upd (upd H t (.tup [.str "top", .int 0, .int 0])) u (.tup [.ref t])) p) t = some (.tup [.str "top", .int 0, .int 0]) := del_at n1 (Same.upd hu _ _ upd_same)
  refine q _ (.tuple [.tuple ([V.str "top", .int 0, .int 0].map toD)]) _ ((Same.upd ht).trans (Same.upd hu)) ⟨.tup (SqT.of h2) (.cons (.tup (SqT.of h1) hf.dp) .nil), ?_, fun a b c e => ?_, .tup2 (SqT.of h2) (by show 1 ≤ 10; decide) fun x hx => ?_, rfl, ?_⟩
  · have := hf.dep
    refine shaped_of ?_ ?_
    · simp only [PyData.canLay0, PyData.canLayAll0, hf.lay, Bool.and_self]
    · simp only [PyData.depth, PyData.depthAll]
      omega
  · injection e with e
    injection e with _ e
    cases e
  · rw [List.mem_singleton.mp hx]
    exact .inr ⟨t, _, rfl, SqT.of h1, by show 3 ≤ 10; decide, hf.flat⟩
  · have := hf.dep
    simp only [PyData.depth, PyData.depthAll]
    omega
/-- ('kept', (1, 0)) -/
theorem mk_nest2 : MkO K p L (tTup (tCons (tC (.str "kept")) (tCons (tTup (tCons (tC (.int 1)) (tCons (tC (.int 0)) tNil))) tNil))) σ := fun H Q hp q => by
  have hf : Fls [.int 1, .int 0] := .cons (fli (by omega)) (.cons (fli (by omega)) .nil)
  have hk : Fl (.str "kept") := fl_str _ (by decide +kernel)
  refine ⟨by show 2 ≤ sizeLine; decide, fun t ht => ⟨by show 2 ≤ sizeLine; decide, fun u hu => ?_⟩⟩
  have n1 : t ≠ p := fun z => hp (by rw [← z]; exact ht)
  have n2 : u ≠ p := fun z => p_same (Same.upd ht) hp (by rw [← z]; exact hu)
  have h2 : (del (upd (upd H t (.tup [.int 1, .int 0])) u (.tup [.str "kept", .ref t])) p) u = some (.tup [.str "kept", .ref t]) := del_at n2 upd_same
  have h1 : (del (upd (upd H t (.tup [.int 1, .int 0])) u (.tup [.str "kept", .ref t])) p) t = some (.tup [.int 1, .int 0]) := del_at n1 (Same.upd hu _ _ upd_same)
  refine q _ (.tuple [.str "kept", .tuple ([V.int 1, .int 0].map toD)]) _ ((Same.upd ht).trans (Same.upd hu)) ⟨.tup (SqT.of h2) (.cons (.str _) (.cons (.tup (SqT.of h1) hf.dp) .nil)), ?_, fun a b c e => ?_, .tup2 (SqT.of h2) (by show 2 ≤ 10; decide) fun x hx => ?_, rfl, ?_⟩
  · have := hf.dep
    have hkl : PyData.strOk "kept" = true := by decide +kernel
    refine shaped_of ?_ ?_
    · simp only [PyData.canLay0, PyData.canLayAll0, hf.lay, hkl, Bool.and_self]
    · simp only [PyData.depth, PyData.depthAll]
      omega
  · injection e with e
    injection e with _ e
    injection e with _ e
    cases e
  · rcases List.mem_cons.mp hx with rfl | hx
    · exact .inl hk.flat
    · rw [List.mem_singleton.mp hx]
      exact .inr ⟨t, _, rfl, SqT.of h1, by show 2 ≤ 10; decide, hf.flat⟩
  · have := hf.dep
    simp only [PyData.depth, PyData.depthAll]
    omega
/-! the list so far -/
def OddSt (K : PySem.W.Frag) (p : Addr) (L : Nat) (H : Hp) (n : Nat) (l : Addr) (H' : Hp) : Prop := ∃ vs, SameX p H H' ∧ Bag H' p ∧ l ≠ p ∧ H' l = some (.lst vs) ∧ vs.length = n ∧ ∀ v ∈ vs, ∃ d, OddV K L (del H' p) v d
def OddMid (K : PySem.W.Frag) (p : Addr) (L : Nat) (N : Int) (H : Hp) (n : Nat) : L2.St → Hp → Prop := fun σ' H' => ∃ l, σ' = [some (.ref p), some (.int L), some (.int N), some (.ref l)] ∧ OddSt K p L H n l H'
theorem bag_some {H : Hp} {p : Addr} (b : Bag H p) : H p ≠ none := by
  obtain ⟨_, _, _, h⟩ := b
  intro z
  rw [h] at z
  cases z
theorem Bag.same {H H' : Hp} {p : Addr} (e : Same H H') (b : Bag H p) : Bag H' p := by
  obtain ⟨a, b, c, h⟩ := b
  exact ⟨a, b, c, e _ _ h⟩
theorem mid_one {H H1 : Hp} {N : Int} (s1 : SameX p H H1) (b1 : Bag H1 p) (m : MkA K p L ta [some (.ref p), some (.int L), some (.int N), none] n) (hn : n ≤ 100 := by decide) :
    tLst ta [some (.ref p), some (.int L), some (.int N), none] H1 fun x H2 => OddMid K p L N H n [some (.ref p), some (.int L), some (.int N), some x] H2 := m H1 _ (bag_some b1) fun vs H2 e2 hl ho => ⟨by rw [sizeLine_eq]; omega, fun l hl0 => by
  have sl := Same.upd (o := HO.lst vs) hl0
  exact ⟨l, rfl, vs, s1.trans (.of (e2.trans sl)), b1.same (e2.trans sl), (fun z => p_same e2 (bag_some b1) (by rw [← z]; exact hl0)), upd_same, hl, fun v hv => by
    obtain ⟨d, o⟩ := ho v hv
    exact ⟨d, o.ext (SameX.of sl).del⟩⟩⟩
theorem mid_more {H G : Hp} {N : Int} {l : Addr} {k : Nat} (m : OddSt K p L H n l G) (a : MkA K p L ta [some (.ref p), some (.int L), some (.int N), some (.ref l)] k) (hn : n + k ≤ 100 := by decide) :
    tOp rCat (tVar 3) (tLst ta) [some (.ref p), some (.int L), some (.int N), some (.ref l)] G fun x H2 => OddMid K p L N H (n + k) [some (.ref p), some (.int L), some (.int N), some x] H2 := by
  obtain ⟨vs, s1, b1, nl, hl, hlen, ho⟩ := m
  refine ⟨_, rfl, a G _ (bag_some b1) fun us H2 e2 hu hou => ⟨by rw [sizeLine_eq]; omega, fun t ht => ⟨l, t, vs, us, rfl, rfl, Same.upd ht _ _ (e2 _ _ hl), upd_same, by rw [sizeLine_eq]; omega, fun q hq => ?_⟩⟩⟩
  have st := Same.upd (o := HO.lst us) ht
  have sq := Same.upd (o := HO.lst (vs ++ us)) hq
  have e := e2.trans (st.trans sq)
  refine ⟨q, rfl, vs ++ us, s1.trans (.of e), b1.same e, (fun z => p_same (e2.trans st) (bag_some b1) (by rw [← z]; exact hq)), upd_same, by rw [List.length_append, hlen, hu], fun v hv => ?_⟩
  rcases List.mem_append.mp hv with z | z
  · obtain ⟨d, o⟩ := ho v z
    exact ⟨d, o.ext (SameX.of e).del⟩
  · obtain ⟨d, o⟩ := hou v z
    exact ⟨d, o.ext (SameX.of (st.trans sq)).del⟩
end
def spOdd (K : PySem.W.Frag) : Sp := fun vs H Q _ => ∃ (p : Addr) (L : Nat), vs = [.ref p, .int L] ∧ Bag H p ∧ 2 ≤ L ∧ L ≤ 9 ∧ ∀ (v : V) (d : PyData) (H' : Hp), SameX p H H' → Bag H' p → OddV K L (del H' p) v d → Q v H'
theorem scOdd : FnScope ["_law_bag_here", "_law_length_here", "_law_number_here", "_law_odd_here"] ["_law_bag_here", "_law_length_here"] (defScope sOdd) := ⟨rfl, rfl, rfl, by decide +kernel, rfl, by decide +kernel, by decide +kernel⟩
section
variable {P : Program} {w : World} {K : PySem.W.Frag} {mg : Str → Option Value} {base : Heap}
theorem ok_odd (T : Tx K mg) : Ok P w K mg base CX0 2 "_law_odd" ["_law_bag_here", "_law_length_here"] (spOdd K) := by
  refine Ok.mk' 24 T (st := sOdd) (fun fd F => ok0 F scOdd (fun vs H Q E h => ?_) fun cdv A outer s H vs Q E hr h => ?_) (fun _ _ _ _ _ _ us hl => match us, hl with | [_, _], _ => rfl)
  · obtain ⟨p, L, rfl, _⟩ := h
    rfl
  · obtain ⟨p, L, rfl, hb, hL2, hL9, qq⟩ := h
    have nd := scOdd.nd
    refine ⟨_, pss_cons (ps_set (i := 2) nd rfl (.inl rfl) (pe_op op_add pe_int (pe_ok (ok_draw T) hr (by decide) pass0 (pa_cons (pv 0) (pa_cons (pe_op op_pow pe_int pe_int) pa_nil)))))
      (Evl.pss_cut (ps_set (i := 3) nd rfl (.inl rfl) (pe_lst (pa_cons pe_non (pa_cons pe_int (pa_cons pe_str (pa_cons (pe_tup pa_nil) (pa_cons (pe_tup (pa_cons pe_str pa_nil)) (pa_cons (pe_tup (pa_cons pe_str (pa_cons pe_int pa_nil))) (pa_cons (pe_tup (pa_cons pe_str (pa_cons pe_int (pa_cons pe_int (pa_cons pe_int pa_nil))))) (pa_cons (pe_lst (pa_cons pe_str (pa_cons pe_int (pa_cons pe_int pa_nil)))) (pa_cons (pe_lst (pa_cons pe_str (pa_cons pe_int (pa_cons pe_int pa_nil)))) (pa_cons (pe_tup (pa_cons pe_str (pa_cons pe_int (pa_cons pe_int pa_nil)))) pa_nil))))))))))))
      (Evl.pss_cut (ps_set (i := 3) nd rfl (.inl rfl) (pe_op op_cat (pv 3) (pe_lst (pa_cons (pe_tup (pa_cons pe_str (pa_cons pe_bl (pa_cons pe_int pa_nil)))) (pa_cons (pe_tup (pa_cons pe_str (pa_cons pe_int (pa_cons pe_bl pa_nil)))) (pa_cons (pe_tup (pa_cons pe_str (pa_cons pe_bl (pa_cons pe_int pa_nil)))) (pa_cons (pe_tup (pa_cons pe_str (pa_cons pe_int (pa_cons pe_bl pa_nil)))) (pa_cons (pe_tup (pa_cons pe_str (pa_cons pe_bl (pa_cons pe_int pa_nil)))) pa_nil))))))))
      (Evl.pss_cut (ps_set (i := 3) nd rfl (.inl rfl) (pe_op op_cat (pv 3) (pe_lst (pa_cons (pe_tup (pa_cons pe_str (pa_cons pe_int (pa_cons pe_int pa_nil)))) (pa_cons (pe_tup (pa_cons pe_str (pa_cons pe_int (pa_cons pe_int pa_nil)))) (pa_cons (pe_tup (pa_cons pe_str (pa_cons (pv 1) (pa_cons pe_int pa_nil)))) (pa_cons (pe_tup (pa_cons pe_str (pa_cons (pv 1) (pa_cons pe_int pa_nil)))) (pa_cons (pe_tup (pa_cons pe_str (pa_cons pe_int (pa_cons pe_int pa_nil)))) pa_nil))))))))
      (Evl.pss_cut (ps_set (i := 3) nd rfl (.inl rfl) (pe_op op_cat (pv 3) (pe_lst (pa_cons (pe_tup (pa_cons pe_str (pa_cons pe_int (pa_cons pe_int pa_nil)))) (pa_cons (pe_tup (pa_cons pe_str (pa_cons pe_int (pa_cons (pe_un un_neg pe_int) pa_nil)))) (pa_cons (pe_tup (pa_cons pe_str (pa_cons (pv 1) (pa_cons (pv 1) pa_nil)))) (pa_cons (pe_tup (pa_cons pe_str (pa_cons (pe_op op_add (pv 1) (pv 2)) (pa_cons pe_int pa_nil)))) pa_nil)))))))
      (Evl.pss_cut (ps_set (i := 3) nd rfl (.inl rfl) (pe_op op_cat (pv 3) (pe_lst (pa_cons (pe_tup (pa_cons pe_str (pa_cons (pe_op op_add (pv 1) (pv 2)) (pa_cons pe_int pa_nil)))) (pa_cons (pe_tup (pa_cons pe_str (pa_cons (pe_un un_neg (pv 2)) (pa_cons pe_int pa_nil)))) (pa_cons (pe_tup (pa_cons pe_str (pa_cons pe_int (pa_cons pe_int pa_nil)))) (pa_cons (pe_tup (pa_cons pe_str (pa_cons pe_int (pa_cons pe_int pa_nil)))) (pa_cons (pe_tup (pa_cons pe_int (pa_cons pe_int (pa_cons pe_int pa_nil)))) pa_nil))))))))
      (Evl.pss_cut (ps_set (i := 3) nd rfl (.inl rfl) (pe_op op_cat (pv 3) (pe_lst (pa_cons (pe_tup (pa_cons pe_str (pa_cons pe_str (pa_cons pe_int pa_nil)))) (pa_cons (pe_tup (pa_cons pe_str (pa_cons pe_int (pa_cons pe_non pa_nil)))) (pa_cons (pe_tup (pa_cons (pe_tup (pa_cons pe_str (pa_cons pe_int (pa_cons pe_int pa_nil)))) pa_nil)) (pa_cons (pe_tup (pa_cons pe_str (pa_cons (pe_tup (pa_cons pe_int (pa_cons pe_int pa_nil))) pa_nil))) (pa_cons (pe_tup (pa_cons pe_str (pa_cons pe_int (pa_cons pe_int pa_nil)))) pa_nil))))))))
      (pss_one (ps_ret (pe_ix ix_list (pv 3) (pe_ok (ok_draw T) hr (by decide) pass0 (pa_cons (pv 0) (pa_cons (pe_callB call_len_seq (by rfl) (T.fre _ (by decide +kernel)) PySem.boot_len (pa_cons (pv 3) pa_nil)) pa_nil))) (fun _ _ => rfl)))))))))), ?_⟩
    refine ⟨_, rfl, _, _, rfl, rfl, ⟨by decide, by decide, by decide⟩, p, _, rfl, hb, by decide, by decide, fun d H1 d0 d1 s1 b1 => ⟨_, _, rfl, rfl, ?_⟩⟩
    have hd : d < 100000000000000000000 := d1
    refine ⟨OddMid K p L (1 + d) H 10, mid_one s1 b1 (.cons (mk_flat (v := .non) .non rfl (fun H Q q => q)) (.cons (mk_flat (v := .int 0) (fli (by omega)) rfl (fun H Q q => q)) (.cons (mk_flat (v := .str "top") (.str (by decide +kernel) (by decide +kernel) (by decide +kernel)) rfl (fun H Q q => q)) (.cons (mk_tup (vs := []) .nil (by show 0 ≤ 10; decide) rfl (fun H Q q => q)) (.cons (mk_tup (vs := [.str "top"]) (.cons (.str (by decide +kernel) (by decide +kernel) (by decide +kernel)) .nil) (by show 1 ≤ 10; decide) rfl (fun H Q q => q)) (.cons (mk_tup (vs := [.str "top", .int 0]) (.cons (.str (by decide +kernel) (by decide +kernel) (by decide +kernel)) (.cons (fli (by omega)) .nil)) (by show 2 ≤ 10; decide) rfl (fun H Q q => q)) (.cons (mk_tup (vs := [.str "top", .int 0, .int 0, .int 0]) (.cons (.str (by decide +kernel) (by decide +kernel) (by decide +kernel)) (.cons (fli (by omega)) (.cons (fli (by omega)) (.cons (fli (by omega)) .nil)))) (by show 4 ≤ 10; decide) rfl (fun H Q q => q)) (.cons (mk_lst (vs := [.str "top", .int 0, .int 0]) (.cons (.str (by decide +kernel) (by decide +kernel) (by decide +kernel)) (.cons (fli (by omega)) (.cons (fli (by omega)) .nil))) (by show 3 ≤ 10; decide) (by intro z; cases z) (fun H Q q => q)) (.cons (mk_lst (vs := [.str "open", .int 1, .int 0]) (.cons (.str (by decide +kernel) (by decide +kernel) (by decide +kernel)) (.cons (fli (by omega)) (.cons (fli (by omega)) .nil))) (by show 3 ≤ 10; decide) (by intro z; cases z) (fun H Q q => q)) (.cons (mk_tup (vs := [.str "top", .int 0, .int 1]) (.cons (.str (by decide +kernel) (by decide +kernel) (by decide +kernel)) (.cons (fli (by omega)) (.cons (fli (by omega)) .nil))) (by show 3 ≤ 10; decide) (bad_top (by omega)) (fun H Q q => q)) MkA.nil)))))))))), ?_⟩
    rintro σ1 G1 ⟨l1, rfl, m1⟩
    refine ⟨OddMid K p L (1 + d) H 15, mid_more m1 (.cons (mk_tup (vs := [.str "top", .bl false, .int 0]) (.cons (.str (by decide +kernel) (by decide +kernel) (by decide +kernel)) (.cons (.bl _) (.cons (fli (by omega)) .nil))) (by show 3 ≤ 10; decide) rfl (fun H Q q => q)) (.cons (mk_tup (vs := [.str "top", .int 0, .bl false]) (.cons (.str (by decide +kernel) (by decide +kernel) (by decide +kernel)) (.cons (fli (by omega)) (.cons (.bl _) .nil))) (by show 3 ≤ 10; decide) rfl (fun H Q q => q)) (.cons (mk_tup (vs := [.str "open", .bl true, .int 0]) (.cons (.str (by decide +kernel) (by decide +kernel) (by decide +kernel)) (.cons (.bl _) (.cons (fli (by omega)) .nil))) (by show 3 ≤ 10; decide) rfl (fun H Q q => q)) (.cons (mk_tup (vs := [.str "open", .int 1, .bl false]) (.cons (.str (by decide +kernel) (by decide +kernel) (by decide +kernel)) (.cons (fli (by omega)) (.cons (.bl _) .nil))) (by show 3 ≤ 10; decide) rfl (fun H Q q => q)) (.cons (mk_tup (vs := [.str "kept", .bl true, .int 0]) (.cons (.str (by decide +kernel) (by decide +kernel) (by decide +kernel)) (.cons (.bl _) (.cons (fli (by omega)) .nil))) (by show 3 ≤ 10; decide) rfl (fun H Q q => q)) MkA.nil))))), ?_⟩
    rintro σ2 G2 ⟨l2, rfl, m2⟩
    refine ⟨OddMid K p L (1 + d) H 20, mid_more m2 (.cons (mk_tup (vs := [.str "open", .int 0, .int 0]) (.cons (.str (by decide +kernel) (by decide +kernel) (by decide +kernel)) (.cons (fli (by omega)) (.cons (fli (by omega)) .nil))) (by show 3 ≤ 10; decide) (bad_open (by omega)) (fun H Q q => q)) (.cons (mk_tup (vs := [.str "open", .int 1, .int 1]) (.cons (.str (by decide +kernel) (by decide +kernel) (by decide +kernel)) (.cons (fli (by omega)) (.cons (fli (by omega)) .nil))) (by show 3 ≤ 10; decide) (bad_open (by omega)) (fun H Q q => q)) (.cons (mk_tup (vs := [.str "open", .int L, .int 0]) (.cons (.str (by decide +kernel) (by decide +kernel) (by decide +kernel)) (.cons (fli (by omega)) (.cons (fli (by omega)) .nil))) (by show 3 ≤ 10; decide) (bad_open (by omega)) (fun H Q q => ⟨_, rfl, q⟩)) (.cons (mk_tup (vs := [.str "kept", .int L, .int 0]) (.cons (.str (by decide +kernel) (by decide +kernel) (by decide +kernel)) (.cons (fli (by omega)) (.cons (fli (by omega)) .nil))) (by show 3 ≤ 10; decide) (bad_kept (by omega)) (fun H Q q => ⟨_, rfl, q⟩)) (.cons (mk_tup (vs := [.str "kept", .int 0, .int 0]) (.cons (.str (by decide +kernel) (by decide +kernel) (by decide +kernel)) (.cons (fli (by omega)) (.cons (fli (by omega)) .nil))) (by show 3 ≤ 10; decide) (bad_kept (by omega)) (fun H Q q => q)) MkA.nil))))), ?_⟩
    rintro σ3 G3 ⟨l3, rfl, m3⟩
    refine ⟨OddMid K p L (1 + d) H 24, mid_more m3 (.cons (mk_tup (vs := [.str "kept", .int 1, .int 1]) (.cons (.str (by decide +kernel) (by decide +kernel) (by decide +kernel)) (.cons (fli (by omega)) (.cons (fli (by omega)) .nil))) (by show 3 ≤ 10; decide) (bad_kept (by omega)) (fun H Q q => q)) (.cons (mk_tup (vs := [.str "kept", .int 1, .int (-1)]) (.cons (.str (by decide +kernel) (by decide +kernel) (by decide +kernel)) (.cons (fli (by omega)) (.cons (fli (by omega)) .nil))) (by show 3 ≤ 10; decide) (bad_kept (by omega)) (fun H Q q => ⟨_, rfl, q⟩)) (.cons (mk_tup (vs := [.str "kept", .int L, .int L]) (.cons (.str (by decide +kernel) (by decide +kernel) (by decide +kernel)) (.cons (fli (by omega)) (.cons (fli (by omega)) .nil))) (by show 3 ≤ 10; decide) (bad_kept (by omega)) (fun H Q q => ⟨_, rfl, _, rfl, q⟩)) (.cons (mk_tup (vs := [.str "kept", .int (L + (1 + d)), .int 1]) (.cons (.str (by decide +kernel) (by decide +kernel) (by decide +kernel)) (.cons (fli (by omega)) (.cons (fli (by omega)) .nil))) (by show 3 ≤ 10; decide) (bad_kept (by omega)) (fun H Q q => ⟨_, rfl, _, rfl, _, _, rfl, rfl, q⟩)) MkA.nil)))), ?_⟩
    rintro σ4 G4 ⟨l4, rfl, m4⟩
    refine ⟨OddMid K p L (1 + d) H 29, mid_more m4 (.cons (mk_tup (vs := [.str "open", .int (L + (1 + d)), .int 0]) (.cons (.str (by decide +kernel) (by decide +kernel) (by decide +kernel)) (.cons (fli (by omega)) (.cons (fli (by omega)) .nil))) (by show 3 ≤ 10; decide) (bad_open (by omega)) (fun H Q q => ⟨_, rfl, _, rfl, _, _, rfl, rfl, q⟩)) (.cons (mk_tup (vs := [.str "open", .int (-(1 + d)), .int 0]) (.cons (.str (by decide +kernel) (by decide +kernel) (by decide +kernel)) (.cons (fli (by omega)) (.cons (fli (by omega)) .nil))) (by show 3 ≤ 10; decide) (bad_open (by omega)) (fun H Q q => ⟨_, rfl, _, rfl, q⟩)) (.cons (mk_tup (vs := [.str "Open", .int 1, .int 0]) (.cons (.str (by decide +kernel) (by decide +kernel) (by decide +kernel)) (.cons (fli (by omega)) (.cons (fli (by omega)) .nil))) (by show 3 ≤ 10; decide) (bad_word (by decide +kernel) (by decide +kernel) (by decide +kernel)) (fun H Q q => q)) (.cons (mk_tup (vs := [.str "", .int 1, .int 0]) (.cons (.str (by decide +kernel) (by decide +kernel) (by decide +kernel)) (.cons (fli (by omega)) (.cons (fli (by omega)) .nil))) (by show 3 ≤ 10; decide) (bad_word (by decide +kernel) (by decide +kernel) (by decide +kernel)) (fun H Q q => q)) (.cons (mk_tup (vs := [.int 0, .int 1, .int 0]) (.cons (fli (by omega)) (.cons (fli (by omega)) (.cons (fli (by omega)) .nil))) (by show 3 ≤ 10; decide) rfl (fun H Q q => q)) MkA.nil))))), ?_⟩
    rintro σ5 G5 ⟨l5, rfl, m5⟩
    refine ⟨OddMid K p L (1 + d) H 34, mid_more m5 (.cons (mk_tup (vs := [.str "kept", .str "1", .int 0]) (.cons (.str (by decide +kernel) (by decide +kernel) (by decide +kernel)) (.cons (.str (by decide +kernel) (by decide +kernel) (by decide +kernel)) (.cons (fli (by omega)) .nil))) (by show 3 ≤ 10; decide) rfl (fun H Q q => q)) (.cons (mk_tup (vs := [.str "kept", .int 1, .non]) (.cons (.str (by decide +kernel) (by decide +kernel) (by decide +kernel)) (.cons (fli (by omega)) (.cons .non .nil))) (by show 3 ≤ 10; decide) rfl (fun H Q q => q)) (.cons mk_nest1 (.cons mk_nest2 (.cons (mk_tup (vs := [.str "top", .int 1, .int 0]) (.cons (.str (by decide +kernel) (by decide +kernel) (by decide +kernel)) (.cons (fli (by omega)) (.cons (fli (by omega)) .nil))) (by show 3 ≤ 10; decide) (bad_top (by omega)) (fun H Q q => q)) MkA.nil))))), ?_⟩
    rintro σ6 G6 ⟨l6, rfl, vs, s6, b6, nl, hl6, hlen, ho⟩
    have hp : 0 < ((vs.length : Nat) : Int) := by omega
    refine ⟨_, rfl, _, rfl, _, rfl, l6, vs, rfl, .inl (SqL.of hl6), p, _, rfl, b6, hp, by omega, fun d2 H2 z0 z1 s2 b2 => ?_⟩
    have hd2 : d2.toNat < vs.length := by omega
    obtain ⟨dd, o⟩ := ho vs[d2.toNat] (List.getElem_mem hd2)
    have hat : atI vs d2 = some vs[d2.toNat] := by
      have z := atI_nat (List.getElem?_eq_getElem hd2)
      rw [show ((d2.toNat : Nat) : Int) = d2 by omega] at z
      exact z
    exact ⟨l6, vs, d2, _, rfl, rfl, SqL.of (s2 _ _ nl hl6), hat, qq _ dd H2 (s6.trans s2) b2 (o.ext s2.del)⟩
end
end K32

set_option Elab.async false
set_option linter.all false
set_option maxRecDepth 100000
set_option maxHeartbeats 4000000
namespace K32
open PySem PySem.Spec PyProof.Rows L2
/-! ### _law_right -/
def rwD (r : Rw) : PyData := .tuple [.bool r.1, .int r.2]
theorem dp_rws {K : PySem.W.Frag} {H : Hp} : ∀ {vs : List V} {rs : List Rw}, Paired (RwAt H) vs rs → DpAll K H vs (rs.map rwD)
  | _, _, .nil => .nil
  | _, _, .cons ⟨t, e, h⟩ b => by
    subst e
    exact .cons (.tup (SqT.of h) (.cons (.bl _) (.cons (.int _) .nil))) (dp_rws b)
theorem rwD_lay (r : Rw) : (rwD r).canLay0 = true := by simp [rwD, PyData.canLay0, PyData.canLayAll0]
theorem rwD_depth (r : Rw) : (rwD r).depth = 1 := by simp [rwD, PyData.depth, PyData.depthAll]
theorem rwDs_lay : ∀ rs : List Rw, PyData.canLayAll0 (rs.map rwD) = true
  | [] => by simp [PyData.canLayAll0]
  | r :: rs => by simp [PyData.canLayAll0, rwD_lay r, rwDs_lay rs]
theorem rwDs_depth : ∀ rs : List Rw, PyData.depthAll (rs.map rwD) ≤ 1
  | [] => by simp [PyData.depthAll]
  | r :: rs => by
    have h1 := rwDs_depth rs
    have h2 := rwD_depth r
    simp only [List.map_cons, PyData.depthAll]
    omega
theorem rwDs_shaped (rs : List Rw) : SeqAt.shaped (.list (rs.map rwD)) = true := shaped_of (by simp only [PyData.canLay0]; exact rwDs_lay rs) (by
  have h := rwDs_depth rs
  simp only [PyData.depth]
  omega)
theorem rwDs_eqv : ∀ rs ts : List Rw, PyData.eqvAll (rs.map rwD) (ts.map rwD) = decide (rs = ts)
  | [], [] => by simp [PyData.eqvAll]
  | [], t :: ts => by simp [PyData.eqvAll]
  | r :: rs, [] => by simp [PyData.eqvAll]
  | r :: rs, t :: ts => by
    rw [List.map_cons, List.map_cons, PyData.eqvAll, rwDs_eqv rs ts]
    have e : PyData.eqv (rwD r) (rwD t) = decide (r.1 = t.1 ∧ r.2 = t.2) := bi_eqv _ _ _ _
    rw [e]
    by_cases h1 : r = t
    · by_cases h2 : rs = ts
      · rw [h1, h2]
        simp
      · rw [decide_eq_false h2, Bool.and_false, decide_eq_false]
        intro z
        exact h2 (List.cons.inj z).2
    · rw [decide_eq_false fun z => h1 (Prod.ext z.1 z.2), Bool.false_and, decide_eq_false]
      intro z
      exact h1 (List.cons.inj z).1
theorem rws_eqv (rs ts : List Rw) : PyData.eqv (.list (rs.map rwD)) (.list (ts.map rwD)) = decide (rs = ts) := by
  rw [PyData.eqv]
  exact rwDs_eqv rs ts
theorem sds_nil (ss : List Sd) : PyData.eqv (.list (ss.map sdD)) (.list []) = ss.isEmpty := by cases ss <;> simp [PyData.eqv, PyData.eqvAll]
theorem SdAt.k {K : PySem.W.Frag} {H : Hp} {v : V} {s : Sd} (h : SdAt H v s) : SdK K H v s := by
  obtain ⟨t, e, h⟩ := h
  exact ⟨t, e, SqT.of h⟩
def twTo (L : Nat) (s1 s2 : Sd) (j : Nat) : List Sd := ((List.range j).filter fun i => decide ((⟨.kp, i + 1, 0⟩ : Sd) = s1 ∨ (⟨.kp, i + 1, 0⟩ : Sd) = s2)).map fun i => ⟨.kp, L, i + 1⟩
theorem twTo_pos {L : Nat} {s1 s2 : Sd} {j : Nat} (c : (⟨.kp, j + 1, 0⟩ : Sd) = s1 ∨ (⟨.kp, j + 1, 0⟩ : Sd) = s2) : twTo L s1 s2 (j + 1) = twTo L s1 s2 j ++ [⟨.kp, L, j + 1⟩] := by
  unfold twTo
  rw [List.range_succ, List.filter_append]
  simp [c]
theorem twTo_neg {L : Nat} {s1 s2 : Sd} {j : Nat} (c : ¬ ((⟨.kp, j + 1, 0⟩ : Sd) = s1 ∨ (⟨.kp, j + 1, 0⟩ : Sd) = s2)) : twTo L s1 s2 (j + 1) = twTo L s1 s2 j := by
  unfold twTo
  rw [List.range_succ, List.filter_append]
  simp [c]
theorem twTo_len (L : Nat) (s1 s2 : Sd) (j : Nat) : (twTo L s1 s2 j).length ≤ j := by
  unfold twTo
  rw [List.length_map]
  exact Nat.le_trans (List.length_filter_le _ _) (by simp)
theorem op_inTK {X : Cx} (K : PySem.W.Frag) (hu : X.A.units + 65 < cLine) (h : X.K = K := by rfl) : OpR X (compareOp .In) (rInT K) := h ▸ op_inT hu
section
variable {K : PySem.W.Frag} {σ : L2.St} {G : Hp} {L : Nat} {v1 v2 : V} {s1 s2 : Sd} {a : Addr} {xs : List V} {bs : List Blk} {i1 i2 ib : Nat} {r : R2} {Q : VK}
theorem two_beh (h0 : σ[0]? = some (some (.int L))) (h1 : σ[i1]? = some (some v1)) (h2 : σ[i2]? = some (some v2)) (hb : σ[ib]? = some (some (.ref a))) (hL : L ≤ 9) (k1 : SdK K G v1 s1) (o1 : s1.ok L = true) (k2 : SdK K G v2 s2) (o2 : s2.ok L = true)
    (ha : G a = some (.lst xs)) (pb : Paired (BlAt G) xs bs) (hc : cnt bs ≤ 2000) (hl : bs.length ≤ 2000)
    (q : ∀ (H' : Hp) (u1 u2 : V), Same G H' → Dp K H' u1 (.list ((behind L s1 bs).map rwD)) → Dp K H' u2 (.list ((behind L s2 bs).map rwD)) → r u1 u2 H' Q) :
    tOp r (tCal (spBehind K) E0 (tCons (tVar 0) (tCons (tVar i1) (tCons (tVar ib) tNil)))) (tCal (spBehind K) E0 (tCons (tVar 0) (tCons (tVar i2) (tCons (tVar ib) tNil)))) σ G Q :=
  ⟨_, h0, _, h1, _, hb, L, v1, s1, a, xs, bs, rfl, hL, k1, o1, ha, pb, hc, hl, fun H1 p1 ys1 e1 hp1 pp1 => ⟨_, h0, _, h2, _, hb, L, v2, s2, a, xs, bs, rfl, hL, k2.ext e1, o2, e1 _ _ ha, Paired.imp (fun _ _ h => TupAt.ext h e1) pb, hc, hl, fun H2 p2 ys2 e2 hp2 pp2 =>
    q H2 _ _ (e1.trans e2) (.lst (SqL.of (e2 _ _ hp1)) (dp_rws (Paired.imp (fun _ _ h => TupAt.ext h e2) pp1))) (.lst (SqL.of hp2) (dp_rws pp2))⟩⟩
theorem two_res (h0 : σ[0]? = some (some (.int L))) (h1 : σ[i1]? = some (some v1)) (h2 : σ[i2]? = some (some v2)) (hb : σ[ib]? = some (some (.ref a))) (hL : L ≤ 9) (k1 : SdK K G v1 s1) (o1 : s1.ok L = true) (k2 : SdK K G v2 s2) (o2 : s2.ok L = true)
    (ha : G a = some (.lst xs)) (pb : Paired (BlAt G) xs bs) (hc : cnt bs ≤ 2000)
    (q : ∀ (H' : Hp) (u1 u2 : V), Same G H' → Dp K H' u1 (.list ((resumed L s1 bs).map rwD)) → Dp K H' u2 (.list ((resumed L s2 bs).map rwD)) → r u1 u2 H' Q) :
    tOp r (tCal (spLRes K) E0 (tCons (tVar 0) (tCons (tVar i1) (tCons (tVar ib) tNil)))) (tCal (spLRes K) E0 (tCons (tVar 0) (tCons (tVar i2) (tCons (tVar ib) tNil)))) σ G Q :=
  ⟨_, h0, _, h1, _, hb, L, v1, s1, a, xs, bs, rfl, hL, k1, o1, ha, pb, hc, fun H1 p1 ys1 e1 hp1 pp1 => ⟨_, h0, _, h2, _, hb, L, v2, s2, a, xs, bs, rfl, hL, k2.ext e1, o2, e1 _ _ ha, Paired.imp (fun _ _ h => TupAt.ext h e1) pb, hc, fun H2 p2 ys2 e2 hp2 pp2 =>
    q H2 _ _ (e1.trans e2) (.lst (SqL.of (e2 _ _ hp1)) (dp_rws (Paired.imp (fun _ _ h => TupAt.ext h e2) pp1))) (.lst (SqL.of hp2) (dp_rws pp2))⟩⟩
end
theorem cnt_ones : ∀ {T : List Blk}, (∀ x ∈ T, x.1 = 1 ∧ x.2.1 = 0) → cnt T = T.length
  | [], _ => rfl
  | b :: T, h => by
    have h1 := cnt_ones (T := T) fun x hx => h x (List.mem_cons_of_mem _ hx)
    have h2 := (h b (List.mem_cons_self ..)).1
    simp [cnt] at h1 ⊢
    omega
/-- what parting_blocks gave -/
def Told (L : Nat) (s1 s2 : Sd) (H H' : Hp) (tv : V) : Prop := (told L s1 s2 = none ∧ tv = .non) ∨ ∃ TT pt tvs, told L s1 s2 = some TT ∧ tv = .ref pt ∧ H pt = none ∧ H' pt = some (.lst tvs) ∧ Paired (BlAt H') tvs TT
theorem Told.same {L : Nat} {s1 s2 : Sd} {H H1 H2 : Hp} {tv : V} (e : Same H1 H2) (h : Told L s1 s2 H H1 tv) : Told L s1 s2 H H2 tv := by
  rcases h with h | ⟨TT, pt, tvs, h1, h2, h3, h4, h5⟩
  · exact .inl h
  · exact .inr ⟨TT, pt, tvs, h1, h2, h3, e _ _ h4, Paired.imp (fun _ _ k => TupAt.ext k e) h5⟩
theorem SdK.pair {K : PySem.W.Frag} {H : Hp} {v1 v2 : V} {s1 s2 : Sd} {t : Addr} (h1 : SdK K H v1 s1) (h2 : SdK K H v2 s2) (h : H t = some (.tup [v1, v2])) : Dp K H (.ref t) (.tuple ([s1, s2].map sdD)) := .tup (SqT.of h) (dps_sd (.cons h1 (.cons h2 .nil)))
def spRight (K : PySem.W.Frag) : Sp := fun vs H Q _ => ∃ (L : Nat) (v1 v2 : V) (s1 s2 : Sd) (a : Addr) (xs : List V) (bs : List Blk), vs = [.int L, v1, v2, .ref a] ∧ 2 ≤ L ∧ L ≤ 9 ∧ SdK K H v1 s1 ∧ s1.ok L = true ∧ SdK K H v2 s2 ∧ s2.ok L = true ∧
  H a = some (.lst xs) ∧ Paired (BlAt H) xs bs ∧ cnt bs ≤ 2000 ∧ bs.length ≤ 2000 ∧ (∀ x ∈ bs, 0 ≤ x.2.1) ∧ ∀ H', Same H H' → Q (.bl true) H'
def nRight : List Str := ["_law_length_here", "_law_one", "_law_two", "_law_blocks", "_law_told", "_law_twins", "_law_kept", "_law_again", "_law_back", "_law_twin", "_law_block_here"]
theorem scRight : FnScope nRight ["_law_length_here", "_law_one", "_law_two", "_law_blocks"] (defScope sRight) := ⟨rfl, rfl, rfl, by decide +kernel, rfl, by decide +kernel, by decide +kernel⟩
section
variable {P : Program} {w : World} {K : PySem.W.Frag} {mg : Str → Option Value} {base : Heap}
theorem boot_all' : bootBuiltins "all" = some (.builtin "all") := by decide +kernel
theorem boot_list' : bootBuiltins "list" = some (.type "list") := by decide +kernel
theorem ok_right (T : Tx K mg) : Ok P w K mg base CX0 6 "_law_right" ["_law_length_here", "_law_one", "_law_two", "_law_blocks"] (spRight K) := by
  refine Ok.mk' 29 T (st := sRight) (fun fd F => ok0 F scRight (fun vs H Q E h => ?_) fun cdv A outer s H vs Q E hr h => ?_) (fun _ _ _ _ _ _ us hl => match us, hl with | [_, _, _, _], _ => rfl)
  · obtain ⟨L, v1, v2, s1, s2, a, xs, bs, rfl, _⟩ := h
    rfl
  · obtain ⟨L, v1, v2, s1, s2, a, xs, bs, rfl, hL2, hL, k1, o1, k2, o2, ha, hb, hc, hbl, hsp, qq⟩ := h
    have nd := scRight.nd
    refine ⟨_, Evl.pss_cut (ps_set (i := 4) nd rfl (.inl rfl) (pe_ok (ok_part T) hr (by decide) passN (pa_cons (pv 0) (pa_cons (pv 1) (pa_cons (pv 2) pa_nil)))))
      (Evl.pss_cut (ps_setLc (i := 5) (own := [("_law_back", 8)]) (g := gName 8) rfl nd rfl rfl (sw_true rfl rfl rfl (by decide +kernel)) (pi_range2 (by rfl) (T.fre _ (by decide +kernel)) (pa_cons pe_int (pa_cons (pv 0) pa_nil))) (blkOk_by (N := nRight) (sc := defScope sRight) (by decide +kernel))
          (fun _ _ _ _ _ => pg_name (i := 8) nd rfl (Or.inl rfl)) (fun _ _ _ _ _ => pts_one (pt_cmpR (op_inTK K (u65 hr)) (pe_tup (pa_cons pe_str (pa_cons (pv 8) (pa_cons pe_int pa_nil)))) (pe_tup (pa_cons (pv 1) (pa_cons (pv 2) pa_nil))) (by rfl))) (fun _ _ _ _ _ => pe_tup (pa_cons pe_str (pa_cons (pv 0) (pa_cons (pv 8) pa_nil)))))
      (pss_cons (ps_if (PW.pt (pw_or (pt_cmpR (op_eqD hr.units) (pv 1) (pv 2) (nomark _)) (pw_or1 (pt_cmpR (op_neD hr.units) (pe_lc (own := [("_law_twin", 9)]) (g := gName 9) rfl nd (pi_list (pv 5)) (blkOk_by (N := nRight) (sc := defScope sRight) (by decide +kernel))
            (fun _ _ _ _ _ => pg_name (i := 9) nd rfl (Or.inl rfl)) (fun _ _ _ _ _ => pts_one (pt_cmpR (op_inTK K (u65 hr)) (pv 9) (pe_tup (pa_cons (pv 1) (pa_cons (pv 2) pa_nil))) (by rfl))) (fun _ _ _ _ _ => pv 9)) (pe_lst pa_nil) (nomark _)))))
          (pss_cons (ps_if (PW.pt (pw_or (pt_cmpR op_notN (pv 4) pe_non (nomark _)) (pw_or1 (pt_cmpR (op_neD hr.units) (pe_ok (ok_lres T) hr (by decide) pass0 (pa_cons (pv 0) (pa_cons (pv 1) (pa_cons (pv 3) pa_nil)))) (pe_ok (ok_lres T) hr (by decide) pass0 (pa_cons (pv 0) (pa_cons (pv 2) (pa_cons (pv 3) pa_nil)))) (nomark _))))) (pss_one (ps_ret pe_bl)) pss_nil)
            (pss_one (ps_ret (pe_cmpR (op_eqD hr.units) (pe_ok (ok_behind T) hr (by decide) pass0 (pa_cons (pv 0) (pa_cons (pv 1) (pa_cons (pv 3) pa_nil)))) (pe_ok (ok_behind T) hr (by decide) pass0 (pa_cons (pv 0) (pa_cons (pv 2) (pa_cons (pv 3) pa_nil)))) (nomark _)))))
          pss_nil)
      (pss_cons (ps_if (PW.pt (pw_or (pt_not (pt_val (pe_callB call_isi (by rfl) (T.fre _ (by decide +kernel)) boot_isi (pa_cons (pv 4) (pa_cons (pe_bltn (v := .ty "list") (by rfl) (T.fre _ (by decide +kernel)) boot_list' rfl) pa_nil)))))
          (pw_or (pt_cmpR op_gt (pe_callB call_len_seq (by rfl) (T.fre _ (by decide +kernel)) PySem.boot_len (pa_cons (pv 4) pa_nil)) (pe_op op_add (pv 0) pe_int) (nomark _))
          (pw_or1 (pt_not (pt_val (pe_callB (cr_all rfl) (by rfl) (T.fre _ (by decide +kernel)) boot_all' (pa_cons (pe_lc (own := [("_law_block_here", 10)]) (g := gName 10) (tt := tYes) rfl nd (pi_list (pv 4)) (blkOk_by (N := nRight) (sc := defScope sRight) (by decide +kernel))
            (fun _ _ _ _ _ => pg_name (i := 10) nd rfl (Or.inl rfl)) (fun _ _ _ _ _ => pts_nil) (fun _ _ _ _ _ => pe_ok (ok_isb T) hr (by decide) pass0 (pa_cons (pv 10) pa_nil))) pa_nil))))))))
          (pss_one (ps_ret pe_bl)) pss_nil)
      (pss_cons (ps_if (pt_cmpR (op_eqD hr.units) (pe_ok (ok_behind T) hr (by decide) pass0 (pa_cons (pv 0) (pa_cons (pv 1) (pa_cons (pv 4) pa_nil)))) (pe_ok (ok_behind T) hr (by decide) pass0 (pa_cons (pv 0) (pa_cons (pv 2) (pa_cons (pv 4) pa_nil)))) (nomark _)) (pss_one (ps_ret pe_bl)) pss_nil)
      (pss_cons (ps_set (i := 6) nd rfl (.inl rfl) (pe_callTy call_list_of (by rfl) (T.fre _ (by decide +kernel)) boot_list' (pa_cons (pv 4) pa_nil)))
      (pss_cons (ps_app (pv 4) pe_non)
      (pss_cons (ps_set (i := 7) nd rfl (.inl rfl) (pe_ok (ok_part T) hr (by decide) passN (pa_cons (pv 0) (pa_cons (pv 2) (pa_cons (pv 1) pa_nil)))))
      (pss_cons (ps_if (PW.pt (pw_or (pt_not (pt_val (pe_callB call_isi (by rfl) (T.fre _ (by decide +kernel)) boot_isi (pa_cons (pv 7) (pa_cons (pe_bltn (v := .ty "list") (by rfl) (T.fre _ (by decide +kernel)) boot_list' rfl) pa_nil)))))
          (pw_or1 (pt_cmpR (op_eqD hr.units) (pe_ok (ok_behind T) hr (by decide) pass0 (pa_cons (pv 0) (pa_cons (pv 1) (pa_cons (pv 7) pa_nil)))) (pe_ok (ok_behind T) hr (by decide) pass0 (pa_cons (pv 0) (pa_cons (pv 2) (pa_cons (pv 7) pa_nil)))) (nomark _)))))
          (pss_one (ps_ret pe_bl)) pss_nil)
      (pss_one (ps_ret (pe_cmpR (op_neD hr.units) (pe_ok (ok_lres T) hr (by decide) pass0 (pa_cons (pv 0) (pa_cons (pv 1) (pa_cons (pv 6) pa_nil)))) (pe_ok (ok_lres T) hr (by decide) pass0 (pa_cons (pv 0) (pa_cons (pv 2) (pa_cons (pv 6) pa_nil)))) (nomark _)))))))))))), ?_⟩
    have pb : ∀ {H' : Hp}, Same H H' → Paired (BlAt H') xs bs := fun e => Paired.imp (fun _ _ k => TupAt.ext k e) hb
    refine ⟨fun σ' H' => ∃ tv, σ' = [some (.int L), some v1, some v2, some (.ref a), some tv, none, none, none, none, none, none] ∧ Same H H' ∧ Told L s1 s2 H H' tv, ?_, ?_⟩
    · exact ⟨_, rfl, _, rfl, _, rfl, L, v1, v2, rfl, hL, .inr ⟨s1, k1, o1, .inr ⟨s2, k2, o2, fun hn H1 e1 => ⟨_, rfl, e1, .inl ⟨hn, rfl⟩⟩, fun TT hT H1 pt tvs e1 hpt htv ptv => ⟨_, rfl, e1, .inr ⟨TT, pt, tvs, hT, rfl, hpt, htv, ptv⟩⟩⟩⟩⟩
    rintro σ1 H1 ⟨tv, rfl, e1, hto⟩
    refine ⟨fun σ' H' => ∃ D acc, σ' = [some (.int L), some v1, some v2, some (.ref a), some tv, some (.ref D), none, none, none, none, none] ∧ Same H H' ∧ Told L s1 s2 H H' tv ∧ H' D = some (.lst acc) ∧ Paired (fun v s => TupAt H' (sdV s) v) acc (lawTwins L s1 s2), ?_, ?_⟩
    · refine ⟨_, rfl, 1, (L : Int), rfl, ⟨by decide, by decide, by omega, by omega⟩, fun D hD => lc_range (lo := 1) (n := ((L : Int) - 1).toNat) (fun j H2 => Same H1 H2 ∧ ∃ acc, H2 D = some (.lst acc) ∧ Paired (fun v s => TupAt H2 (sdV s) v) acc (twTo L s1 s2 j)) ?_ ?_ ?_⟩
      · exact ⟨Same.upd hD, [], upd_same, .nil⟩
      · rintro j H2 hj ⟨e2, acc, hacc, pacc⟩
        have hlen := twTo_len L s1 s2 j
        have hl2 := Paired.length pacc
        have ej : (1 : Int) + (j : Int) = ((j + 1 : Nat) : Int) := by omega
        have ev : [V.str "kept", .int (1 + (j : Int)), .int 0] = sdV ⟨.kp, j + 1, 0⟩ := by
          rw [ej] <;> rfl
        refine ⟨rfl, _, rfl, by show 3 ≤ sizeLine; decide, fun t ht => ⟨_, rfl, _, rfl, by show 2 ≤ sizeLine; decide, fun t2 ht2 => ?_⟩⟩
        have st := Same.upd (o := HO.tup [.str "kept", .int (1 + (j : Int)), .int 0]) ht
        have st2 := Same.upd (o := HO.tup [v1, v2]) ht2
        have e3 := e1.trans (e2.trans (st.trans st2))
        refine ⟨sdD ⟨.kp, j + 1, 0⟩, _, dp_sd ⟨t, rfl, SqT.of (by rw [← ev]; exact st2 _ _ upd_same)⟩, SdK.pair (k1.ext e3) (k2.ext e3) upd_same, sdD_shaped _, sdT_shaped _, _, rfl, ?_⟩
        rw [any_sd]
        have ec : decide ((⟨.kp, j + 1, 0⟩ : Sd) ∈ [s1, s2]) = decide ((⟨.kp, j + 1, 0⟩ : Sd) = s1 ∨ (⟨.kp, j + 1, 0⟩ : Sd) = s2) := by simp
        rw [ec]
        refine ite2 (fun c => ?_) (fun c => ?_)
        · have c := of_decide_eq_true c
          refine ⟨_, rfl, _, rfl, by show 3 ≤ sizeLine; decide, fun t3 ht3 => ?_⟩
          have e4 := e2.trans (st.trans st2)
          obtain ⟨y1, y2, y3⟩ := app_tup (f := sdV) (r := (⟨.kp, L, j + 1⟩ : Sd)) (xs := [.str "kept", .int L, .int (1 + (j : Int))]) (by
            show _ = [V.str "kept", .int (L : Int), .int ((j + 1 : Nat) : Int)]
            rw [← ej] <;> rfl) hD e4 (st2 _ _ (st _ _ hacc)) (Paired.imp (fun _ _ k => TupAt.ext k (st.trans st2)) pacc) ht3 rfl
          refine ⟨acc, Same.upd ht3 _ _ (st2 _ _ (st _ _ hacc)), Evl.sz_lt (by omega), y1, _, y2, ?_⟩
          rw [twTo_pos c]
          exact y3
        · have c : ¬ _ := fun z => c (decide_eq_true z)
          refine ⟨e2.trans (st.trans st2), acc, st2 _ _ (st _ _ hacc), ?_⟩
          rw [twTo_neg c]
          exact Paired.imp (fun _ _ k => TupAt.ext k (st.trans st2)) pacc
      · rintro H2 ⟨e2, acc, hacc, pacc⟩
        rw [show ((L : Int) - 1).toNat = L - 1 by omega] at pacc
        exact ⟨D, acc, rfl, e1.trans e2, hto.same e2, hacc, pacc⟩
    rintro σ2 H2 ⟨D, acc, rfl, e2, hto, hD, pD⟩
    refine ⟨_, rfl, _, rfl, _, _, dp_sd (k1.ext e2), dp_sd (k2.ext e2), sdD_shaped _, sdD_shaped _, _, rfl, ?_⟩
    rw [sdD_eqv]
    have sameL : lawSame L s1 s2 = (decide (s1 = s2) || !((lawTwins L s1 s2).filter fun t => decide (t = s1 ∨ t = s2)).isEmpty) := rfl
    refine ite2 (fun c1 => iteT ?b1) (fun c1 => ⟨_, rfl, D, rfl, ⟨_, SqL.of hD⟩, fun D2 hD2 => lc_list (xs := acc) (fun i H3 => Same H2 H3 ∧ ∃ acc2, H3 D2 = some (.lst acc2) ∧ Paired (fun v s => TupAt H3 (sdV s) v) acc2 (((lawTwins L s1 s2).take i).filter fun t => decide (t = s1 ∨ t = s2))) ?h0 ?hl ?hs ?hd⟩)
    case h0 => exact ⟨Same.upd hD2, [], upd_same, .nil⟩
    case hl =>
      rintro i H3 _ ⟨e3, _⟩
      exact SqL.of (e3 _ _ hD)
    case hs =>
      rintro i x H3 hx ⟨e3, acc2, hacc2, pacc2⟩
      obtain ⟨sd, hsd, hat⟩ := Paired.at1 pD hx
      have hx3 : TupAt H3 (sdV sd) x := TupAt.ext hat e3
      have hl2 := Paired.length pacc2
      have hle := List.length_filter_le (fun t => decide (t = s1 ∨ t = s2)) ((lawTwins L s1 s2).take i)
      have hlt : (lawTwins L s1 s2).length ≤ L - 1 := twTo_len L s1 s2 (L - 1)
      rw [List.length_take] at hle
      refine ⟨rfl, _, rfl, _, rfl, _, rfl, by show 2 ≤ sizeLine; decide, fun t ht => ?_⟩
      have st := Same.upd (o := HO.tup [v1, v2]) ht
      have e4 := e2.trans (e3.trans st)
      refine ⟨sdD sd, _, dp_sd (SdAt.k (TupAt.ext hx3 st)), SdK.pair (k1.ext e4) (k2.ext e4) upd_same, sdD_shaped _, sdT_shaped _, _, rfl, ?_⟩
      rw [any_sd]
      have ec : decide (sd ∈ [s1, s2]) = decide (sd = s1 ∨ sd = s2) := by simp
      rw [ec, take_succ' hsd, List.filter_append]
      refine ite2 (fun c => ?_) (fun c => ?_)
      · refine ⟨_, rfl, acc2, st _ _ hacc2, Evl.sz_lt (by omega), Same.upd' (e3.trans st) hD2, _, upd_same, ?_⟩
        have k : ∀ {v s}, TupAt H3 (sdV s) v → TupAt (upd (upd H3 t (HO.tup [v1, v2])) D2 (.lst (acc2 ++ [x]))) (sdV s) v := fun h => by
          obtain ⟨b, h1, h2⟩ := h
          refine ⟨b, h1, ?_⟩
          rw [upd_ne (fun z => by rw [z, hacc2] at h2; cases h2)]
          exact st _ _ h2
        rw [show ([sd].filter fun t => decide (t = s1 ∨ t = s2)) = [sd] by simp only [List.filter, c]]
        exact Paired.snoc (Paired.imp (fun _ _ h => k h) pacc2) (k hx3)
      · refine ⟨e3.trans st, acc2, st _ _ hacc2, ?_⟩
        rw [show ([sd].filter fun t => decide (t = s1 ∨ t = s2)) = [] by simp only [List.filter, Bool.eq_false_iff.mpr c], List.append_nil]
        exact Paired.imp (fun _ _ h => TupAt.ext h st) pacc2
    case' hd =>
      rintro H3 ⟨e3, acc2, hacc2, pacc2⟩
      rw [List.take_of_length_le (by rw [Paired.length pD]; exact Nat.le_refl _)] at pacc2
      refine ⟨Nat.zero_le _, fun t ht => ?_⟩
      have st := Same.upd (o := HO.lst []) ht
      have ex := e2.trans (e3.trans st)
      have hto := hto.same (e3.trans st)
      refine ⟨_, _, .lst (SqL.of (st _ _ hacc2)) (dps_sd (Paired.imp (fun _ _ h => SdAt.k (TupAt.ext h st)) pacc2)), .lst (SqL.of upd_same) .nil, sdDs_shaped _, nil_shaped, _, rfl, ?_⟩
      rw [sds_nil]
      have c1' : ¬ s1 = s2 := fun z => c1 (decide_eq_true z)
      rw [decide_eq_false c1', Bool.false_or] at sameL
      rw [← sameL]
      refine ite2 (fun hs => ?_) (fun hs => ?_)
      rotate_left
      · have hs := Bool.eq_false_iff.mpr hs
        obtain ⟨TT, t12, t21, hTl, hT1, hbe, hre⟩ := others_part hL2 hL o1 o2 hs
        rcases hto with ⟨hn, _⟩ | ⟨TT', pt, tvs, hT', rfl, hpt, htv, ptv⟩
        · rw [t12] at hn
          cases hn
        rw [t12] at hT'
        cases hT'
        have hct : cnt TT ≤ 2000 := by
          rw [cnt_ones hT1]
          omega
        have htl := Paired.length ptv
        refine ⟨_, rfl, _, _, _, _, true, rfl, .ty "list", .base (.lst htv), kit_ty (by decide +kernel), true, rfl, iteF ⟨_, rfl, pt, tvs, rfl, .inl (SqL.of htv), _, rfl, _, _, rfl, rfl, _, _, rfl, rfl, _, rfl, ite2 (fun c => absurd (of_decide_eq_true c) (by omega)) (fun _ => ?_)⟩⟩
        refine ⟨_, rfl, pt, rfl, ⟨_, SqL.of htv⟩, fun D3 hD3 => lc_list (xs := tvs) (fun i H5 => Same (upd H3 t (HO.lst [])) H5 ∧ H5 D3 = some (.lst ((List.replicate i true).map V.bl))) ?_ ?_ ?_ ?_⟩
        · exact ⟨Same.upd hD3, upd_same⟩
        · rintro i H5 _ ⟨e5, _⟩
          exact SqL.of (e5 _ _ htv)
        · rintro i x H5 hx ⟨e5, h5⟩
          obtain ⟨b, hb5, hat⟩ := Paired.at1 ptv hx
          have hb1 := hT1 b (List.mem_of_getElem? hb5)
          have hi : i < tvs.length := (List.getElem?_eq_some_iff.mp hx).1
          refine ⟨rfl, _, rfl, x, b, rfl, TupAt.ext hat e5, by omega, by omega, by omega, _, h5, Evl.sz_lt (by rw [List.length_map, List.length_replicate]; omega), Same.upd' e5 hD3, ?_⟩
          rw [upd_same, List.replicate_succ', List.map_append] <;> rfl
        rintro H5 ⟨e5, h5⟩
        refine ⟨D3, _, rfl, SqL.of h5, _, rfl, ?_⟩
        have hal : (List.replicate tvs.length true).all id = true := by simp
        rw [hal]
        have ey := ex.trans e5
        have htv := e5 _ _ htv
        have ptv := Paired.imp (fun _ _ h => TupAt.ext h e5) ptv
        refine iteF (two_beh rfl rfl rfl rfl hL (k1.ext ey) o1 (k2.ext ey) o2 htv ptv hct (by omega) fun H6 u1 u2 e6 d1 d2 => ⟨_, _, d1, d2, rwDs_shaped _, rwDs_shaped _, _, rfl, ?_⟩)
        rw [rws_eqv, decide_eq_false hbe]
        have ez := ey.trans e6
        have htv := e6 _ _ htv
        have ptv := Paired.imp (fun _ _ h => TupAt.ext h e6) ptv
        refine iteF ⟨_, rfl, pt, tvs, rfl, .inl (SqL.of htv), fun pk hpk => ?_⟩
        have sk := Same.upd (o := HO.lst tvs) hpk
        refine ⟨_, rfl, ty_list (sk _ _ htv), pt, tvs, .non, rfl, rfl, sk _ _ htv, Evl.sz_lt (by omega), ?_⟩
        have npk : pk ≠ pt := fun z => by
          rw [z, htv] at hpk
          cases hpk
        have ew : Same H (upd (upd H6 pk (.lst tvs)) pt (.lst (tvs ++ [.non]))) := Same.upd' (ez.trans sk) hpt
        have hk : (upd (upd H6 pk (.lst tvs)) pt (.lst (tvs ++ [.non]))) pk = some (.lst tvs) := by rw [upd_ne npk, upd_same]
        have pk' : Paired (BlAt (upd (upd H6 pk (.lst tvs)) pt (.lst (tvs ++ [.non])))) tvs TT := Paired.imp (fun _ _ ⟨b, h1, h2⟩ => ⟨b, h1, by
          rw [upd_ne (fun z => by rw [z, htv] at h2; cases h2)]
          exact sk _ _ h2⟩) ptv
        generalize upd (upd H6 pk (.lst tvs)) pt (.lst (tvs ++ [.non])) = H7 at ew hk pk' ⊢
        refine ⟨_, rfl, _, rfl, _, rfl, L, v2, v1, rfl, hL, .inr ⟨s2, k2.ext ew, o2, .inr ⟨s1, k1.ext ew, o1, (fun z => by rw [t21] at z; cases z), fun T2 hT2 H8 pa avs e8 _ hav pav => ?_⟩⟩⟩
        rw [t21] at hT2
        cases hT2
        have e9 := ew.trans e8
        refine ⟨_, rfl, _, _, _, _, true, rfl, .ty "list", .base (.lst hav), kit_ty (by decide +kernel), true, rfl, iteF (two_beh rfl rfl rfl rfl hL (k1.ext e9) o1 (k2.ext e9) o2 hav pav hct (by omega) fun H10 u1 u2 e10 d1 d2 => ⟨_, _, d1, d2, rwDs_shaped _, rwDs_shaped _, _, rfl, ?_⟩)⟩
        rw [rws_eqv, decide_eq_false hbe]
        have e11 := e9.trans e10
        refine iteF (two_res rfl rfl rfl rfl hL (k1.ext e11) o1 (k2.ext e11) o2 (e10 _ _ (e8 _ _ hk)) (Paired.imp (fun _ _ h => TupAt.ext h (e8.trans e10)) pk') hct fun H12 u1 u2 e12 d1 d2 => ⟨_, _, d1, d2, rwDs_shaped _, rwDs_shaped _, ?_⟩)
        rw [rws_eqv, decide_eq_false hre]
        exact qq _ (e11.trans e12)
    case' b1 =>
      have ex := e2
      have hs : lawSame L s1 s2 = true := by rw [sameL, c1, Bool.true_or]
    all_goals
      obtain ⟨hn, hall⟩ := same_alike hL2 hL o1 o2 hs
      rcases hto with ⟨_, rfl⟩ | ⟨TT, pt, tvs, hT, _⟩
      · refine ⟨_, rfl, rfl, _, rfl, iteNS rfl (two_res rfl rfl rfl rfl hL (k1.ext ex) o1 (k2.ext ex) o2 (ex _ _ ha) (pb ex) hc fun H4 u1 u2 e4 d1 d2 => ⟨_, _, d1, d2, rwDs_shaped _, rwDs_shaped _, _, rfl, ?_⟩)⟩
        rw [rws_eqv, decide_eq_true (hall bs hsp).1]
        have ey := ex.trans e4
        refine iteF (two_beh rfl rfl rfl rfl hL (k1.ext ey) o1 (k2.ext ey) o2 (ey _ _ ha) (pb ey) hc hbl fun H5 u1 u2 e5 d1 d2 => ⟨_, _, d1, d2, rwDs_shaped _, rwDs_shaped _, ?_⟩)
        rw [rws_eqv, decide_eq_true (hall bs hsp).2]
        exact qq _ (ey.trans e5)
      · rw [hn] at hT
        cases hT
end
end K32

set_option Elab.async false
set_option linter.all false
set_option maxRecDepth 100000
set_option maxHeartbeats 4000000
namespace K32
open PySem PySem.Spec PyProof.Rows L2
/-! ### _law_refused -/
/-- try: a() / except BadStanding as e: return (e.standing,) / return None -/
def TRef (K : PySem.W.Frag) : (XK → Hp → VK → Prop) → Hp → VK → Prop := fun tl H Q =>
  tl (fun cls d H' => cls = .ref (He.ga K "BadStanding") ∧ ∃ dd fs v, d = some dd ∧ H' dd = some (.xd fs) ∧ fs.lookup ("standing" : Str) = some v ∧ ∀ t, H' t = none → Q (.ref t) (upd H' t (.tup [v]))) H (fun _ H' => Q .non H')
theorem scRef : FnScope ["_law_ask", "e"] ["_law_ask"] (defScope sRefused) := ⟨rfl, rfl, rfl, by decide +kernel, rfl, by decide +kernel, by decide +kernel⟩
/-- the slots are as many as the names -/
theorem pss_len (n : Nat) {X : Cx} {b : List Stmt} {t : TS} (hn : X.N.length = n) (h : PSs X b t) : PSs X b (fun D σ H => σ.length = n → t D σ H) := ⟨fun pins s σ H D I q => h.run pins s σ H D I (q (I.len.trans hn))⟩
theorem ref_gives {X : Cx} (T : Tx X.K X.mg) {g : Addr} {cdg : Value} {q : Str} : LamX.GivesTo X ["_law_ask", "e"] "_law_refused" (defScope sRefused) g cdg (defBody sRefused) "_law_ask" q (TRef X.K) := by
  intro f c' s H Q tl act hc h
  refine ⟨_, pss_cons (ps_try_as (X := (cxOf C8.CX0 X.prog X.w X.K X.mg X.base ["_law_ask", "e"] "_law_refused" (defScope sRefused) g cdg X.A X.stack s H C8.E0).nox) (i := 1) (c := .ref (He.ga X.K "BadStanding"))
      (tb := fun W D σ H => ∃ Ech : XK, (∀ cls d σ' H', Ech cls d H' → W cls d σ' H') ∧ σ[0]? = some (some (.ref f)) ∧ H c' = some (LamX.CodeO c' q) ∧ tl Ech H (fun _ H' => D.nx σ H'))
      rfl rfl scRef.nd rfl rfl ⟨rfl, by decide, .inl (T.glo "BadStanding" (by decide +kernel))⟩ takes0 (fun W pn xe tk _ => ?_) (fun a oe cls d pn hz hf => pss_len 2 rfl (pss_one (ps_ret (pe_tup (pa_cons (pe_xf T.xf T.noS hz hf (pv 1)) pa_nil)))))) (pss_one (ps_ret pe_non)), ?_⟩
  · refine ⟨fun pins s' σ H' D I h' => ?_⟩
    obtain ⟨Ech, hW, h1, h2, h3⟩ := h'
    have hp := fun p1 p2 => act W pn xe Ech p1 p2 tk hW
    have hq := fun p1 p2 p3 => pss_one (ps_expr (pos := p3) (hp p1 p2))
    exact (hq _ _ _).run pins s' σ H' D I ⟨h1, h2, h3⟩
  · refine ⟨fun cls d H' => cls = .ref (He.ga X.K "BadStanding") ∧ ∃ dd fs v, d = some dd ∧ H' dd = some (.xd fs) ∧ fs.lookup ("standing" : Str) = some v ∧ ∀ t, H' t = none → Q (.ref t) (upd H' t (.tup [v])), fun cls d σ' H' ⟨e1, dd, fs, v, e2, e3, e4, e5⟩ => ?_, rfl, hc, h⟩
    subst e1
    exact ⟨true, T.exm, fun _ a ha hl => ⟨.ref a, List.getElem?_set_self (by rw [List.length_set] at hl; omega), rfl, rfl, dd, fs, v, e2, e3, e4, by show 1 ≤ sizeLine; decide, fun t ht => e5 t ht⟩, fun z => Bool.noConfusion z⟩
end K32

set_option Elab.async false
set_option linter.all false
set_option maxRecDepth 100000
set_option maxHeartbeats 4000000
namespace K32
open PySem PySem.Spec PyProof.Rows L2
/-! ### the heap without the bag and without the tables -/
def core (p : Addr) (H : Hp) : Hp := fun b => if b = p then none else match H b with
  | some (.tbl _) => none
  | o => o
theorem core_at {p b : Addr} {H : Hp} {o : HO} (n : b ≠ p) (h : H b = some o) (t : ∀ ps, o ≠ .tbl ps) : core p H b = some o := by
  unfold core
  rw [if_neg n, h]
  cases o with
  | tbl ps => exact absurd rfl (t ps)
  | _ => rfl
theorem core_out {p b : Addr} {H : Hp} {o : HO} (h : core p H b = some o) : b ≠ p ∧ H b = some o ∧ ∀ ps, o ≠ .tbl ps := by
  unfold core at h
  by_cases n : b = p
  · rw [if_pos n] at h
    cases h
  · rw [if_neg n] at h
    refine ⟨n, ?_⟩
    cases e : H b with
    | none =>
      rw [e] at h
      cases h
    | some u =>
      rw [e] at h
      cases u with
      | tbl ps => cases h
      | _ =>
        cases h
        exact ⟨rfl, fun ps z => by cases z⟩
theorem core_sub {p : Addr} {H : Hp} : Same (core p H) H := fun b o h => (core_out h).2.1
theorem core_n {p : Addr} {H H' : Hp} (e : LamX.ExtN H H') : Same (core p H) (core p H') := fun b o h => by
  obtain ⟨n, h1, h2⟩ := core_out h
  exact core_at n (e b o h1 h2) h2
theorem core_x {p : Addr} {H H' : Hp} (s : SameX p H H') : Same (core p H) (core p H') := fun b o h => by
  obtain ⟨n, h1, h2⟩ := core_out h
  exact core_at n (s b o n h1) h2
theorem core_del {p : Addr} {H : Hp} : LamX.ExtN (del H p) (core p H) := fun b o h t => by
  by_cases z : b = p
  · rw [z, del_same] at h
    cases h
  · rw [del_ne z] at h
    exact core_at z h t
theorem core_new {p : Addr} {H : Hp} (n : H p = none) : LamX.ExtN H (core p H) := fun b o h t => core_at (ne_of_none h n) h t
theorem TupAt.core {p : Addr} {H : Hp} {xs : List V} {v : V} (b : Bag H p) (h : TupAt H xs v) : TupAt (core p H) xs v := by
  obtain ⟨t, e, h⟩ := h
  obtain ⟨_, _, _, hb⟩ := b
  exact ⟨t, e, core_at (fun z => by rw [z, hb] at h; cases h) h (fun ps z => by cases z)⟩
section
variable {K : PySem.W.Frag} {G G' : Hp}
theorem rd_n {a : Addr} {u : HO} (e : LamX.ExtN G G') (hu : ∀ ps, u ≠ .tbl ps) (h : Rd G a u) : Rd G' a u := by
  rcases h with h | ⟨o, h⟩
  · exact .inl (e _ _ h hu)
  · exact .inr ⟨o, e _ _ h fun ps z => by cases z⟩
theorem sql_n {a : Addr} {xs : List V} (e : LamX.ExtN G G') (h : SqL K G a xs) : SqL K G' a xs := by
  rcases h with h | h
  · exact .inl (rd_n e (fun ps z => by cases z) h)
  · exact .inr h
theorem sqt_n {a : Addr} {xs : List V} (e : LamX.ExtN G G') (h : SqT K G a xs) : SqT K G' a xs := by
  rcases h with h | h
  · exact .inl (rd_n e (fun ps z => by cases z) h)
  · exact .inr h
mutual
theorem dp_n (e : LamX.ExtN G G') : ∀ {v : V} {d : PyData}, Dp K G v d → Dp K G' v d
  | _, _, .non => .non
  | _, _, .bl b => .bl b
  | _, _, .int i => .int i
  | _, _, .str x => .str x
  | _, _, .lst h k => .lst (sql_n e h) (dps_n e k)
  | _, _, .tup h k => .tup (sqt_n e h) (dps_n e k)
theorem dps_n (e : LamX.ExtN G G') : ∀ {vs : List V} {ds : List PyData}, DpAll K G vs ds → DpAll K G' vs ds
  | _, _, .nil => .nil
  | _, _, .cons a b => .cons (dp_n e a) (dps_n e b)
end
theorem fm_n {v : V} (e : LamX.ExtN G G') (h : Fm K G v) : Fm K G' v := by
  cases h with
  | flat h => exact .flat h
  | tup ht hl h => exact .tup (sqt_n e ht) hl h
  | tup2 ht hl h =>
    refine .tup2 (sqt_n e ht) hl fun x hx => ?_
    rcases h x hx with h | ⟨b, ys, h1, h2, h3⟩
    · exact .inl h
    · exact .inr ⟨b, ys, h1, sqt_n e h2, h3⟩
  | lst hs h0 hl h => exact .lst (sql_n e hs) h0 hl h
theorem odd_n {L : Nat} {v : V} {d : PyData} (e : LamX.ExtN G G') (h : OddV K L G v d) : OddV K L G' v d := ⟨dp_n e h.dp, h.sh, h.th, fm_n e h.fm, h.bad, h.dl⟩
end
/-! what holds all through a turn -/
abbrev lq : Str := (envOfC "law" (defScope sLaw) 0 0 .none).qual ++ "<lambda>"
structure St (K : PySem.W.Frag) (a : Addr) (ns : List Int) (PP p : Addr) (H : Hp) : Prop where
  sc : SqL K (core p H) a (ns.map V.int)
  tb : LamX.Tabs [(PP, lq)] H
  bag : Bag H p
theorem tabs_x {T : List (Addr × Str)} {p : Addr} {H H' : Hp} (b : Bag H p) (s : SameX p H H') (t : LamX.Tabs T H) : LamX.Tabs T H' := fun q hq => by
  obtain ⟨_, _, _, hb⟩ := b
  obtain ⟨ps, h1, h2, h3⟩ := t q hq
  refine ⟨ps, s _ _ (fun z => by rw [z, hb] at h1; cases h1) h1, h2, fun pos cv hc => ?_⟩
  obtain ⟨c, e1, e2⟩ := h3 pos cv hc
  refine ⟨c, e1, s _ _ (fun z => ?_) e2⟩
  rw [z, hb] at e2
  unfold LamX.CodeO at e2
  cases e2
section
variable {K : PySem.W.Frag} {a : Addr} {ns : List Int} {PP p : Addr} {H H' : Hp}
theorem St.x (s : SameX p H H') (b : Bag H' p) (h : St K a ns PP p H) : St K a ns PP p H' := ⟨Evl.ex_l (core_x s) h.sc, tabs_x h.bag s h.tb, b⟩
theorem St.same (e : Same H H') (h : St K a ns PP p H) : St K a ns PP p H' := h.x (.of e) (h.bag.same e)
theorem St.n (e : LamX.ExtN H H') (t : LamX.Tabs [(PP, lq)] H') (h : St K a ns PP p H) : St K a ns PP p H' := ⟨Evl.ex_l (core_n e) h.sc, t, by
  obtain ⟨x, y, z, hb⟩ := h.bag
  exact ⟨x, y, z, e _ _ hb fun ps z => by cases z⟩⟩
end
theorem lawSds_len {L : Nat} (h1 : 1 ≤ L) (h : L ≤ 9) : 0 < (lawSds L).length ∧ (lawSds L).length ≤ 200 := by
  have e : lawSds L = lawTo L L ++ opsTo (L - 1) ++ [⟨.top, 0, 0⟩] := rfl
  have h2 := lawTo_len L L h
  have h3 : (opsTo (L - 1)).length = L - 1 := by simp [opsTo]
  rw [e, List.length_append, List.length_append, h3]
  simp
  omega
def spLaw (K : PySem.W.Frag) (PP : Addr) : Sp := fun vs H Q _ => ∃ (a : Addr) (ns : List Int), vs = [.ref a] ∧ SqL K H a (ns.map V.int) ∧ LamX.Tabs [(PP, lq)] H ∧ ∀ H', Q (.bl true) H'
def nLaw : List Str := ["_law_script", "_law_at", "_law_bag_here", "_law_length_here", "_law_some", "_law_turn", "_law_one", "_law_two", "_law_back", "_law_blocks", "_law_odd_here", "_law_place"]
theorem scLaw : FnScope nLaw ["_law_script"] (defScope sLaw) := ⟨rfl, rfl, rfl, by decide +kernel, rfl, by decide +kernel, by decide +kernel⟩
section
variable {P : Program} {w : World} {K : PySem.W.Frag} {mg : Str → Option Value} {base : Heap}
theorem boot_max' : bootBuiltins "max" = some (.builtin "max") := by decide +kernel
theorem boot_min' : bootBuiltins "min" = some (.builtin "min") := by decide +kernel
theorem ok_law (T : Tx K mg) {PP : Addr} {fd : FuncData} (F : FnP K "law" "law" sLaw (He.ga K "law") fd) (TB : LamX.TabB base mg (He.codeOf K ("law", none)) PP) : FnOk P w K mg base CX0 7 (He.ga K "law") fd ["_law_script"] (spLaw K PP) := by
  obtain ⟨oc, od, dV, kV, doc, pm, an, cdv, ct, osl, rfl, lk, hcd, _, _⟩ := F.ex
  obtain ⟨c, rfl⟩ := He.codeIn_ref hcd
  have ec : He.codeOf K ("law", none) = c := He.codeOf_eq lk rfl
  rw [ec] at TB
  obtain ⟨fr, FR⟩ := T.fn (x := "_law_refused") (st := sRefused) (List.mem_of_getElem? (i := 25) rfl)
  have hbr := FunD.bindsN (ps := ["_law_ask"]) FR fun _ _ _ _ _ _ us hl => match us, hl with | [_], _ => rfl
  obtain ⟨ocr, odr, dVr, kVr, docr, pmr, anr, cdvr, ctr, oslr, rfl, lkr, hcdr, _, _⟩ := FR.ex
  refine fn_of lk hcd scLaw (fun vs H Q E h => ?_) fun A outer s H vs Q E hr h => ?_
  · obtain ⟨a, ns, rfl, _⟩ := h
    rfl
  · obtain ⟨a, ns, rfl, hs, ht, qq⟩ := h
    have nd := scLaw.nd
    suffices h : ∃ t, PSs (cxOf CX0 P w K mg base nLaw "law" (defScope sLaw) (He.ga K "law") (.ref c) A outer s H E).nox (defBody sLaw) t ∧ t { nx := fun _ H' => Q .non H', rt := Q } (L2.start nLaw [.ref a]) H by
      obtain ⟨t, h1, h2⟩ := h
      exact ⟨t, PSs.nox h1, h2⟩
    refine ⟨_, pss_cons (ps_for PassesOwn.never rfl (pi_range1 (by rfl) (T.fre _ (by decide +kernel)) (pa_cons (pe_callB (call_max2 rfl) (by rfl) (T.fre _ (by decide +kernel)) boot_max' (pa_cons pe_int (pa_cons (pe_callB (call_min2 rfl) (by rfl) (T.fre _ (by decide +kernel)) boot_min' (pa_cons (pe_callB call_len_seq (by rfl) (T.fre _ (by decide +kernel)) PySem.boot_len (pa_cons (pv 0) pa_nil)) (pa_cons pe_int pa_nil))) pa_nil))) pa_nil)) (pg_name (i := 1) nd rfl (.inl rfl))
        (pss_cons (ps_set (i := 2) nd rfl (.inr rfl) (pe_ok (ok_bag T) hr (by decide) pass0 (pa_cons (pv 0) (pa_cons (pv 1) pa_nil))))
        (pss_cons (ps_set (i := 3) nd rfl (.inr rfl) (pe_ok (ok_len T) hr (by decide) pass0 (pa_cons (pv 2) pa_nil)))
        (pss_cons (ps_par (i := 4) (j := 5) rfl nd rfl rfl (by decide) rfl rfl (pa_cons (pe_ok (ok_lsds T) hr (by decide) pass0 (pa_cons (pv 3) pa_nil)) (pa_cons (pe_ok (ok_draw T) hr (by decide) pass0 (pa_cons (pv 2) (pa_cons pe_int pa_nil))) pa_nil)) (by rfl))
        (Evl.pss_cut (ps_asg (pe_tup (pa_cons (pe_ix ix_list (pv 4) (pe_ok (ok_draw T) hr (by decide) pass0 (pa_cons (pv 2) (pa_cons (pe_callB call_len_seq (by rfl) (T.fre _ (by decide +kernel)) PySem.boot_len (pa_cons (pv 4) pa_nil)) pa_nil))) (fun _ _ => rfl))
            (pa_cons (pe_ix ix_list (pv 4) (pe_ok (ok_draw T) hr (by decide) pass0 (pa_cons (pv 2) (pa_cons (pe_callB call_len_seq (by rfl) (T.fre _ (by decide +kernel)) PySem.boot_len (pa_cons (pv 4) pa_nil)) pa_nil))) (fun _ _ => rfl)) pa_nil)))
            (pg_tup rfl (pgs_cons (pg_name (i := 6) nd rfl (.inr rfl)) (pgs_cons (pg_name (i := 7) nd rfl (.inl rfl)) pgs_nil))))
        (Evl.pss_cut (ps_if (pt_cmpR op_lt (pv 5) pe_int (nomark _)) (pss_cons (ps_set (i := 8) nd rfl (.inl rfl) (pe_op op_add pe_int (pe_ok (ok_draw T) hr (by decide) pass0 (pa_cons (pv 2) (pa_cons (pe_op op_sub (pv 3) pe_int) pa_nil)))))
            (pss_one (ps_asg (pe_stepL (pe_lst (pa_cons (pe_tup (pa_cons pe_str (pa_cons (pv 3) (pa_cons (pv 8) pa_nil)))) (pa_cons (pe_tup (pa_cons pe_str (pa_cons (pv 8) (pa_cons pe_int pa_nil)))) pa_nil))) (pe_op op_sub pe_int (pe_op op_mul pe_int (pv 5))))
              (pg_unl rfl (pgs_cons (pg_name (i := 6) nd rfl (.inr rfl)) (pgs_cons (pg_name (i := 7) nd rfl (.inl rfl)) pgs_nil)))))) pss_nil)
        (Evl.pss_cut (ps_if (pt_cmpR op_eq (pv 5) pe_int (nomark _)) (pss_one (ps_set (i := 7) nd rfl (.inl rfl) (pv 6))) pss_nil)
        (Evl.pss_cut (ps_setLc (i := 9) (own := [("_law_place", 11)]) (g := gName 11) (tt := tYes) rfl nd rfl rfl (sw_true rfl rfl rfl (by decide +kernel)) (pi_range1 (by rfl) (T.fre _ (by decide +kernel)) (pa_cons (pe_ok (ok_draw T) hr (by decide) pass0 (pa_cons (pv 2) (pa_cons pe_int pa_nil))) pa_nil)) (blkOk_by (N := nLaw) (sc := defScope sLaw) (by decide +kernel))
            (fun _ _ _ _ _ => pg_name (i := 11) nd rfl (Or.inl rfl)) (fun _ _ _ _ _ => pts_nil) (fun _ _ _ _ _ => pe_ok (ok_blk T) hr (by decide) pass0 (pa_cons (pv 2) (pa_cons pe_int pa_nil))))
        (pss_cons (ps_if (pt_not (pt_val (pe_ok (ok_right T) hr (by decide) pass0 (pa_cons (pv 3) (pa_cons (pv 6) (pa_cons (pv 7) (pa_cons (pv 9) pa_nil))))))) (pss_one (ps_ret pe_bl)) pss_nil)
        (Evl.pss_cut (ps_set (i := 10) nd rfl (.inr rfl) (pe_ok (ok_odd T) hr (by decide) pass0 (pa_cons (pv 2) (pa_cons (pv 3) pa_nil))))
        (pss_cons (ps_if (pt_cmpR (op_neD hr.units) (LamX.pe_lamcall (T := [(PP, lq)]) (TT := TRef K) (k := 4) (by rfl) (T.glo "_law_refused" (by decide +kernel)) FR.kp lkr hcdr hbr scRef rfl (.inl rfl) (ref_gives T) TB rfl (List.mem_cons_self ..) (fun q hq _ => by rw [List.mem_singleton.mp hq] <;> rfl) hr (LamX.lamS_by (sc := defScope sLaw) (by decide +kernel)) rfl (fun _ _ _ _ _ => rfl)
              (fun A outer s H E f c' hr2 => pe_ok (ok_part T) hr2 (by decide) (passes_call (takes_of rfl rfl rfl rfl) fun _ _ _ _ h => h) (pa_cons (pv 3) (pa_cons (pv 10) (pa_cons pe_non pa_nil))))) (pe_tup (pa_cons (pv 10) pa_nil)) (nomark _))
            (pss_one (ps_ret pe_bl)) pss_nil)
        (pss_one (ps_if (pt_cmpR (op_neD hr.units) (LamX.pe_lamcall (T := [(PP, lq)]) (TT := TRef K) (k := 4) (by rfl) (T.glo "_law_refused" (by decide +kernel)) FR.kp lkr hcdr hbr scRef rfl (.inl rfl) (ref_gives T) TB rfl (List.mem_cons_self ..) (fun q hq _ => by rw [List.mem_singleton.mp hq] <;> rfl) hr (LamX.lamS_by (sc := defScope sLaw) (by decide +kernel)) rfl (fun _ _ _ _ _ => rfl)
              (fun A outer s H E f c' hr2 => pe_ok (ok_part T) hr2 (by decide) (passes_call (takes_of rfl rfl rfl rfl) fun _ _ _ _ h => h) (pa_cons (pv 3) (pa_cons (pv 6) (pa_cons (pv 10) pa_nil))))) (pe_tup (pa_cons (pv 10) pa_nil)) (nomark _))
            (pss_one (ps_ret pe_bl)) pss_nil)))))))))))))
      (pss_one (ps_ret pe_bl)), ?_⟩
    refine ⟨_, rfl, a, _, rfl, .inl hs, _, _, rfl, _, _, rfl, _, rfl, by split <;> (try split) <;> omega, by split <;> (try split) <;> omega, for_range (lo := 0) (fun i σ H1 => ∃ x1 x2 x3 x4 x5 x6 x7 x8 x9 x10 x11, σ = [some (.ref a), x1, x2, x3, x4, x5, x6, x7, x8, x9, x10, x11] ∧ SqL K H1 a (ns.map V.int) ∧ LamX.Tabs [(PP, lq)] H1) ?_ ?_ ?_⟩
    · exact ⟨_, _, _, _, _, _, _, _, _, _, _, rfl, hs, ht⟩
    · rintro i σ H1 _ ⟨x1, x2, x3, x4, x5, x6, x7, x8, x9, x10, x11, rfl, hs1, ht1⟩
      refine ⟨_, rfl, _, rfl, a, ns, i, by rw [Int.zero_add], hs1, fun H2 p e2 hp b2 => ?_⟩
      have st2 : St K a ns PP p H2 := ⟨Evl.ex_l (core_x (.of e2)) (sql_n (core_new hp) hs1), ht1.ext e2, b2⟩
      refine ⟨_, rfl, p, rfl, b2, fun L H3 hL2 hL9 s3 b3 => ?_⟩
      have st3 := st2.x s3 b3
      refine ⟨_, rfl, L, rfl, by omega, hL9, fun H4 ps ys e4 hps hys pys => ?_⟩
      have st4 := st3.same e4
      have nps : ps ≠ p := fun z => bag_some b3 (by rw [← z]; exact hps)
      have lys := Paired.length pys
      have ll := lawSds_len (L := L) (by omega) hL9
      refine ⟨_, rfl, p, 8, rfl, st4.bag, by decide, by decide, fun turn H5 t0 t8 s5 b5 => ⟨_, _, rfl, ?_⟩⟩
      have st5 := st4.x s5 b5
      have pick : ∀ {G : Hp} (d : Int), 0 ≤ d → d < ((ys.length : Nat) : Int) → Same (core p H4) G → ∃ v s, atI ys d = some v ∧ SdK K G v s ∧ s.ok L = true := fun d z0 z1 e => by
        have hd : d.toNat < ys.length := by omega
        obtain ⟨s, h1, h2⟩ := Paired.at1 pys (List.getElem?_eq_getElem hd)
        refine ⟨_, s, ?_, SdAt.k (TupAt.ext (TupAt.core st4.bag h2) e), mem_lawSds.mp (List.mem_of_getElem? h1)⟩
        have z := atI_nat (List.getElem?_eq_getElem hd)
        rw [show ((d.toNat : Nat) : Int) = d by omega] at z
        exact z
      have c5 : (core p H5) ps = some (.lst ys) := core_x s5 _ _ (core_at nps hys fun ps z => by cases z)
      have hlen : 0 < ((ys.length : Nat) : Int) := by omega
      refine ⟨fun σ' H' => ∃ v1 v2 s1 s2 x8 x9 x10 x11, σ' = [some (.ref a), some (.int (0 + i)), some (.ref p), some (.int L), some (.ref ps), some (.int turn), some v1, some v2, x8, x9, x10, x11] ∧ St K a ns PP p H' ∧ SdK K (core p H') v1 s1 ∧ s1.ok L = true ∧ SdK K (core p H') v2 s2 ∧ s2.ok L = true, ?_, ?_⟩
      · refine ⟨_, rfl, _, rfl, _, rfl, ps, ys, rfl, .inl (SqL.of (core_sub _ _ c5)), p, _, rfl, b5, hlen, by omega, fun d H6 d0 d1 s6 b6 => ?_⟩
        have c6 := core_x s6 _ _ c5
        obtain ⟨v1, s1, hat1, k1, o1⟩ := pick (G := core p H6) d d0 d1 ((core_x s5).trans (core_x s6))
        refine ⟨ps, ys, d, v1, rfl, rfl, SqL.of (core_sub _ _ c6), hat1, ?_⟩
        refine ⟨_, rfl, _, rfl, _, rfl, ps, ys, rfl, .inl (SqL.of (core_sub _ _ c6)), p, _, rfl, b6, hlen, by omega, fun d2 H7 d20 d21 s7 b7 => ?_⟩
        have c7 := core_x s7 _ _ c6
        obtain ⟨v2, s2, hat2, k2, o2⟩ := pick (G := core p H7) d2 d20 d21 ((core_x s5).trans ((core_x s6).trans (core_x s7)))
        refine ⟨ps, ys, d2, v2, rfl, rfl, SqL.of (core_sub _ _ c7), hat2, by show 2 ≤ sizeLine; decide, fun t ht => ?_⟩
        have st := Same.upd (o := HO.tup [v1, v2]) ht
        exact ⟨t, _, rfl, SqT.of upd_same, rfl, _, _, rfl, _, _, rfl, rfl, v1, v2, s1, s2, x8, x9, x10, x11, rfl, ((st5.x s6 b6).x s7 b7).same st, (k1.ext (core_x s7)).ext (core_x (.of st)), o1, k2.ext (core_x (.of st)), o2⟩
      rintro σ6 H6 ⟨v1, v2, s1, s2, y8, y9, y10, y11, rfl, st6, k1, o1, k2, o2⟩
      refine ⟨fun σ' H' => ∃ v1 v2 s1 s2 x8 x9 x10 x11, σ' = [some (.ref a), some (.int (0 + i)), some (.ref p), some (.int L), some (.ref ps), some (.int turn), some v1, some v2, x8, x9, x10, x11] ∧ St K a ns PP p H' ∧ SdK K (core p H') v1 s1 ∧ s1.ok L = true ∧ SdK K (core p H') v2 s2 ∧ s2.ok L = true, ?_, ?_⟩
      · refine ⟨_, rfl, _, _, rfl, rfl, _, rfl, ite2 (fun c => ?_) (fun c => ⟨v1, v2, s1, s2, y8, y9, y10, y11, rfl, st6, k1, o1, k2, o2⟩)⟩
        have c := of_decide_eq_true c
        refine ⟨_, rfl, _, rfl, _, _, rfl, rfl, p, _, rfl, st6.bag, by omega, by omega, fun d H7 d0 d1 s7 b7 => ⟨_, _, rfl, rfl, ?_⟩⟩
        have st7 := st6.x s7 b7
        obtain ⟨b, rfl⟩ : ∃ b : Nat, d = ((b : Nat) : Int) := ⟨d.toNat, by omega⟩
        have hb1 : b + 1 < L := by omega
        have eb : (1 : Int) + ((b : Nat) : Int) = ((b + 1 : Nat) : Int) := by omega
        refine ⟨_, rfl, _, rfl, by show 3 ≤ sizeLine; decide, fun t1 ht1 => ⟨_, rfl, by show 3 ≤ sizeLine; decide, fun t2 ht2 => ⟨by show 2 ≤ sizeLine; decide, fun l hl => ⟨l, rfl, _, rfl, _, _, rfl, rfl, .inl ⟨by decide, by decide⟩, _, _, rfl, rfl, _, rfl, ?_⟩⟩⟩⟩
        have e1 := Same.upd (o := HO.tup [.str "kept", .int L, .int (1 + (b : Int))]) ht1
        have e2 := Same.upd (o := HO.tup [.str "kept", .int (1 + (b : Int)), .int 0]) ht2
        have e3 := Same.upd (o := HO.lst [.ref t1, .ref t2]) hl
        have ka : ∀ {G : Hp}, Same (upd (upd (upd H7 t1 (HO.tup [.str "kept", .int L, .int (1 + (b : Int))])) t2 (HO.tup [.str "kept", .int (1 + (b : Int)), .int 0])) l (HO.lst [.ref t1, .ref t2])) G → Bag G p → SdK K (core p G) (.ref t1) ⟨.kp, L, b + 1⟩ := fun {G} e bg => SdAt.k (TupAt.core bg ⟨t1, rfl, by
          have z : G t1 = some (HO.tup [.str "kept", .int L, .int (1 + (b : Int))]) := e _ _ (e3 _ _ (e2 _ _ (upd_same (H := H7) (a := t1))))
          rw [eb] at z
          exact z⟩)
        have kb : ∀ {G : Hp}, Same (upd (upd (upd H7 t1 (HO.tup [.str "kept", .int L, .int (1 + (b : Int))])) t2 (HO.tup [.str "kept", .int (1 + (b : Int)), .int 0])) l (HO.lst [.ref t1, .ref t2])) G → Bag G p → SdK K (core p G) (.ref t2) ⟨.kp, b + 1, 0⟩ := fun {G} e bg => SdAt.k (TupAt.core bg ⟨t2, rfl, by
          have z : G t2 = some (HO.tup [.str "kept", .int (1 + (b : Int)), .int 0]) := e _ _ (e3 _ _ (upd_same (a := t2)))
          rw [eb] at z
          exact z⟩)
        have oa : (⟨.kp, L, b + 1⟩ : Sd).ok L = true := by
          simp [Sd.ok]
          omega
        have ob : (⟨.kp, b + 1, 0⟩ : Sd).ok L = true := by
          simp [Sd.ok]
          omega
        rcases (by omega : turn = 0 ∨ turn = 1) with rfl | rfl
        · refine ⟨1, _, rfl, .inl rfl, SqL.of upd_same, fun q hq => ?_⟩
          rw [if_pos rfl]
          have e4 := Same.upd (o := HO.lst [.ref t1, .ref t2]) hq
          have st8 := st7.same (e1.trans (e2.trans (e3.trans e4)))
          exact ⟨q, _, rfl, SqL.of upd_same, rfl, _, _, rfl, _, _, rfl, rfl, _, _, _, _, _, _, _, _, rfl, st8, ka e4 st8.bag, oa, kb e4 st8.bag, ob⟩
        · refine ⟨-1, _, rfl, .inr rfl, SqL.of upd_same, fun q hq => ?_⟩
          rw [if_neg (by decide)]
          have e4 := Same.upd (o := HO.lst [.ref t1, .ref t2].reverse) hq
          have st8 := st7.same (e1.trans (e2.trans (e3.trans e4)))
          exact ⟨q, [.ref t2, .ref t1], rfl, SqL.of upd_same, rfl, _, _, rfl, _, _, rfl, rfl, _, _, _, _, _, _, _, _, rfl, st8, kb e4 st8.bag, ob, ka e4 st8.bag, oa⟩
      clear k1 o1 k2 o2 st6 v1 v2 s1 s2 y8 y9 y10 y11
      rintro σ7 H7 ⟨v1, v2, s1, s2, y8, y9, y10, y11, rfl, st7, k1, o1, k2, o2⟩
      refine ⟨fun σ' H' => ∃ v1 v2 s1 s2 x8 x9 x10 x11, σ' = [some (.ref a), some (.int (0 + i)), some (.ref p), some (.int L), some (.ref ps), some (.int turn), some v1, some v2, x8, x9, x10, x11] ∧ St K a ns PP p H' ∧ SdK K (core p H') v1 s1 ∧ s1.ok L = true ∧ SdK K (core p H') v2 s2 ∧ s2.ok L = true, ?_, ?_⟩
      · exact ⟨_, rfl, rfl, _, rfl, ite2 (fun c => ⟨_, rfl, v1, v1, s1, s1, y8, y9, y10, y11, rfl, st7, k1, o1, k1, o1⟩) (fun c => ⟨v1, v2, s1, s2, y8, y9, y10, y11, rfl, st7, k1, o1, k2, o2⟩)⟩
      clear k1 o1 k2 o2 st7 v1 v2 s1 s2 y8 y9 y10 y11
      rintro σ8 H8 ⟨v1, v2, s1, s2, y8, y9, y10, y11, rfl, st8, k1, o1, k2, o2⟩
      refine ⟨fun σ' H' => ∃ D acc bs, σ' = [some (.ref a), some (.int (0 + i)), some (.ref p), some (.int L), some (.ref ps), some (.int turn), some v1, some v2, y8, some (.ref D), y10, y11] ∧ St K a ns PP p H' ∧ SdK K (core p H') v1 s1 ∧ SdK K (core p H') v2 s2 ∧
        H' D = some (.lst acc) ∧ Paired (BlAt H') acc bs ∧ bs.length ≤ 8 ∧ ∀ x ∈ bs, x.1 ≤ 20 ∧ 0 ≤ x.2.1, ?_, ?_⟩
      · refine ⟨_, rfl, p, 9, rfl, st8.bag, by decide, by decide, fun d H9 d0 d1 s9 b9 => ⟨d, rfl, by omega, by omega, fun D hD => lc_range (lo := 0) (n := d.toNat) (fun j G => SameX p H9 G ∧ Bag G p ∧ ∃ acc bs, G D = some (.lst acc) ∧ Paired (BlAt G) acc bs ∧ bs.length = j ∧ ∀ x ∈ bs, x.1 ≤ 20 ∧ 0 ≤ x.2.1) ?_ ?_ ?_⟩⟩
        · have e := Same.upd (o := HO.lst []) hD
          exact ⟨.of e, b9.same e, [], [], upd_same, .nil, rfl, fun x hx => nomatch hx⟩
        · rintro j G hj ⟨sG, bG, acc, bs, hacc, pacc, hlen, hall⟩
          have nD : D ≠ p := fun z => bag_some b9 (by rw [← z]; exact hD)
          have hj : j < d.toNat := hj
          refine ⟨rfl, _, rfl, p, rfl, bG, fun b G2 t hb1 hb2 s2' b2' ht2 => ?_⟩
          have hD2 := s2' _ _ nD hacc
          have la := Paired.length pacc
          have tnD : ∀ {x : Addr} {xs : List V}, G2 x = some (.tup xs) → x ≠ D := fun h z => by
            rw [z, hD2] at h
            cases h
          refine ⟨acc, hD2, Evl.sz_lt (by omega), ?_, ?_, acc ++ [.ref t], bs ++ [b], upd_same, ?_, ?_, ?_⟩
          · intro x o n h
            have z := s2' _ _ n (sG _ _ n h)
            rw [upd_ne (ne_of_none h hD)]
            exact z
          · obtain ⟨z1, z2, z3, hz⟩ := b2'
            exact ⟨z1, z2, z3, by rw [upd_ne nD.symm]; exact hz⟩
          · refine Paired.snoc (Paired.imp (fun v r h => ?_) pacc) ⟨t, rfl, by rw [upd_ne (tnD ht2)]; exact ht2⟩
            obtain ⟨x, h1, h2⟩ := h
            obtain ⟨z1, z2, z3, hz⟩ := bG
            have h3 := s2' _ _ (fun z => by rw [z, hz] at h2; cases h2) h2
            exact ⟨x, h1, by rw [upd_ne (tnD h3)]; exact h3⟩
          · rw [List.length_append, hlen] <;> rfl
          · intro x hx
            rcases List.mem_append.mp hx with z | z
            · exact hall x z
            · rw [List.mem_singleton.mp z]
              exact ⟨hb1, hb2⟩
        · rintro G ⟨sG, bG, acc, bs, hacc, pacc, hlen, hall⟩
          have ss := s9.trans sG
          exact ⟨D, acc, bs, rfl, st8.x ss bG, k1.ext (core_x ss), k2.ext (core_x ss), hacc, pacc, by omega, hall⟩
      clear k1 k2 st8
      rintro σ9 H9 ⟨D, acc, bs, rfl, st9, k1, k2, hD, pD, hbl, hall⟩
      have hct : cnt bs ≤ 2000 := by
        have z : ∀ bs : List Blk, (∀ x ∈ bs, x.1 ≤ 20 ∧ 0 ≤ x.2.1) → cnt bs ≤ 20 * bs.length := fun bs => by
          induction bs with
          | nil => intro _; simp [cnt]
          | cons b bs ih =>
            intro h
            have h1 := ih fun x hx => h x (List.mem_cons_of_mem _ hx)
            have h2 := (h b (List.mem_cons_self ..)).1
            simp [cnt] at h1 ⊢
            omega
        have := z bs hall
        omega
      refine ⟨_, rfl, _, rfl, _, rfl, _, rfl, L, v1, v2, s1, s2, D, acc, bs, rfl, hL2, hL9, k1.ext core_sub, o1, k2.ext core_sub, o2, hD, pD, hct, by omega, fun x hx => (hall x hx).2, fun H10 e10 => ⟨true, rfl, iteF ?_⟩⟩
      have st10 := st9.same e10
      refine ⟨fun σ' H' => ∃ vo d, σ' = [some (.ref a), some (.int (0 + i)), some (.ref p), some (.int L), some (.ref ps), some (.int turn), some v1, some v2, y8, some (.ref D), some vo, y11] ∧ St K a ns PP p H' ∧ SdK K (core p H') v1 s1 ∧ OddV K L (core p H') vo d, ?_, ?_⟩
      · exact ⟨_, rfl, _, rfl, p, L, rfl, st10.bag, hL2, hL9, fun vo d H11 s11 b11 o11 => ⟨vo, d, rfl, st10.x s11 b11, (k1.ext (core_x (.of e10))).ext (core_x s11), odd_n core_del o11⟩⟩
      clear k1 k2 st9 st10
      rintro σ11 H11 ⟨vo, d, rfl, st11, k1, od⟩
      have dsh : SeqAt.shaped (.tuple [d]) = true := by
        have z := od.sh
        have z1 := SeqAt.canLay_of_shaped z
        have z2 := od.dl
        exact shaped_of (by simp only [PyData.canLay0, PyData.canLayAll0, z1, Bool.and_self]) (by
          simp only [PyData.depth, PyData.depthAll]
          omega)
      have deq : PyData.eqv (.tuple [d]) (.tuple [d]) = true := SeqAt.eqv_refl _ (SeqAt.canLay_of_shaped dsh)
      refine ⟨st11.tb, fun H12 n12 tb12 => ?_⟩
      have st12 := st11.n n12 tb12
      refine ⟨_, rfl, _, rfl, L, vo, .non, rfl, hL9, .inl ⟨d, (od.ext (core_n n12)).ext core_sub, fun dx H13 e13 _ hdx => ⟨rfl, dx, _, vo, rfl, hdx, by kernel_rfl, fun t ht => ?_⟩⟩⟩
      have et := Same.upd (o := HO.tup [vo]) ht
      refine ⟨_, rfl, by show 1 ≤ sizeLine; decide, fun t2 ht2 => ?_⟩
      have et2 := Same.upd (o := HO.tup [vo]) ht2
      have st14 := st12.same (e13.trans (et.trans et2))
      have x14 := (core_n n12).trans (core_x (p := p) (.of (e13.trans (et.trans et2))))
      have od14 := (od.ext x14).ext core_sub
      refine ⟨.tuple [d], .tuple [d], .tup (SqT.of (et2 _ _ upd_same)) (.cons od14.dp .nil), .tup (SqT.of upd_same) (.cons od14.dp .nil), dsh, dsh, _, rfl, ?_⟩
      rw [deq]
      refine iteF ?_
      refine ⟨st14.tb, fun H15 n15 tb15 => ?_⟩
      have st15 := st14.n n15 tb15
      have x15 := x14.trans (core_n n15)
      refine ⟨_, rfl, _, rfl, _, rfl, L, v1, vo, rfl, hL9, .inr ⟨s1, (k1.ext x15).ext core_sub, o1, .inl ⟨d, (od.ext x15).ext core_sub, fun dx H16 e16 _ hdx => ⟨rfl, dx, _, vo, rfl, hdx, by kernel_rfl, fun t ht => ?_⟩⟩⟩⟩
      have et := Same.upd (o := HO.tup [vo]) ht
      refine ⟨_, rfl, by show 1 ≤ sizeLine; decide, fun t2 ht2 => ?_⟩
      have et2 := Same.upd (o := HO.tup [vo]) ht2
      have st17 := st15.same (e16.trans (et.trans et2))
      have od17 := (od.ext (x15.trans (core_x (p := p) (.of (e16.trans (et.trans et2)))))).ext core_sub
      refine ⟨.tuple [d], .tuple [d], .tup (SqT.of (et2 _ _ upd_same)) (.cons od17.dp .nil), .tup (SqT.of upd_same) (.cons od17.dp .nil), dsh, dsh, _, rfl, ?_⟩
      rw [deq]
      exact iteF ⟨_, _, _, _, _, _, _, _, _, _, _, rfl, Evl.ex_l core_sub st17.sc, st17.tb⟩
    · rintro σ H1 ⟨x1, x2, x3, x4, x5, x6, x7, x8, x9, x10, x11, rfl, _⟩
      exact qq _
end
end K32

set_option Elab.async false
set_option linter.all false
set_option maxRecDepth 100000
set_option maxHeartbeats 4000000
namespace K32
open PySem PySem.Spec PyProof.Rows L2
/-! ### what the head says -/
theorem fact_of {K : PySem.W.Frag} (c : He5.SaysA facts defs K) {f : He.Fa} (h : f ∈ facts) : f.ok K = true := by
  obtain ⟨i, hi⟩ := List.getElem?_of_mem h
  exact c.fact i hi
theorem def_of {K : PySem.W.Frag} (c : He5.SaysA facts defs K) {d : He5.DefA} (h : d ∈ defs) : ∃ fd, FunD K d.name d.qual d.params d.body d.scope (d.dvs K) (d.kws K) (d.at_ K) fd := by
  obtain ⟨i, hi⟩ := List.getElem?_of_mem h
  exact c.def_ i hi
theorem in_glo {x : Str} (h : x ∈ gnames) : He.Fa.glo x ∈ facts := List.mem_append_left _ (List.mem_append_left _ (List.mem_append_left _ (List.mem_append_left _ (List.mem_map.mpr ⟨x, h, rfl⟩))))
theorem in_fre {x : Str} (h : x ∈ fnames) : He.Fa.free x ∈ facts := List.mem_append_left _ (List.mem_append_left _ (List.mem_append_left _ (List.mem_append_right _ (List.mem_map.mpr ⟨x, h, rfl⟩))))
theorem in_noat {x : Str} (h : x ∈ pattrs) : He.Fa.noat "Page" x ∈ facts := List.mem_append_left _ (List.mem_append_left _ (List.mem_append_right _ (List.mem_map.mpr ⟨x, h, rfl⟩)))
theorem in_meth {x : Str} (h : x ∈ pmeths) : He.Fa.meth "Page" x ∈ facts := List.mem_append_left _ (List.mem_append_right _ (List.mem_map.mpr ⟨x, h, rfl⟩))
theorem in_end {f : He.Fa} (h : f ∈ ([.cls "Page", .mkr "Page", .noat "BadStanding" "standing", .exm "BadStanding" "BadStanding" true] : List He.Fa)) : f ∈ facts := List.mem_append_right _ h
theorem tx_of {h : Heap} {K : PySem.W.Frag} {mg : Str → Option Value} (X : K.In h) (G : h.Ns mainGlobals mg) (c : Says h K) : Tx K mg := by
  obtain ⟨m1, m⟩ := He.ba c.more
  obtain ⟨m2, m⟩ := He.ba m
  obtain ⟨m3, m⟩ := He.ba m
  obtain ⟨m4, m⟩ := He.ba m
  obtain ⟨m5, m⟩ := He.ba m
  obtain ⟨m6, m⟩ := He.ba m
  obtain ⟨m7, m⟩ := He.ba m
  obtain ⟨m8, m9⟩ := He.ba m
  obtain ⟨m4a, m4b⟩ := He.ba m4
  obtain ⟨m6a, m6b⟩ := He.ba m6
  obtain ⟨fr, FR⟩ := def_of c.a (d := dResume) (List.mem_of_getElem? (i := 7) rfl)
  exact {
    glo := fun x hx => He.glo_ok X G (fact_of c.a (in_glo hx))
    fre := fun x hx => He.free_ok X G (fact_of c.a (in_fre hx))
    def_ := fun d hd => def_of c.a hd
    cls := He.cls_ok (fact_of c.a (in_end (List.mem_cons_self ..)))
    noat := fun f hf => He.noat_ok (fact_of c.a (in_noat hf))
    meth := fun m hm => He.meth_ok (fact_of c.a (in_meth hm))
    mkr := He.mkr_ok (fact_of c.a (in_end (List.mem_cons_of_mem _ (List.mem_cons_self ..))))
    res := ⟨m6a, He.eqO_ok m6b, (He5.wrapB_ok m7).1, (He5.wrapB_ok m7).2, FR.kp⟩
    oex := oexB_ok m1
    xf := L2.xfB_ok m2
    noS := He.noat_ok (x := "BadStanding") (fact_of c.a (in_end (List.mem_cons_of_mem _ (List.mem_cons_of_mem _ (List.mem_cons_self ..)))))
    ini := He.meth_ok (x := "BadStanding") m3
    exm := He.exm_ok (x := "BadStanding") (y := "BadStanding") (fact_of c.a (in_end (List.mem_cons_of_mem _ (List.mem_cons_of_mem _ (List.mem_cons_of_mem _ (List.mem_cons_self ..))))))
    prd := m4a
    pga := He.eqO_ok m4b
    pve := veB_ok m5
    top := fun H => He.tupB_ok m9 H }
theorem law_at {w : World} {mg : Str → Option Value} {fa : Addr} {h : Heap} (Y : ∃ K : PySem.W.Frag, K.In h ∧ Says h K) (G : h.Ns mainGlobals mg) (hmg : mg "law" = some (.ref fa)) :
    ∃ K : PySem.W.Frag, K.In h ∧ LamX.LawAtS PySem.Challenge.rw_pressalike_k32_whole_standings_parted w K CX0 7 63 "_law_script" mg fa h := by
  obtain ⟨K, KX, c⟩ := Y
  have T := tx_of KX G c
  obtain ⟨fd, F⟩ := T.fn (x := "law") (st := sLaw) (List.mem_of_getElem? (i := 30) rfl)
  have e := hmg.symm.trans (T.glo "law" (by decide +kernel))
  cases e
  have b := FunD.bindsA (ps := ["_law_script"]) F fun _ _ _ _ _ _ us hl => match us, hl with | [_], _ => rfl
  have one : ∀ {Q : Addr × Addr → Prop}, Q (He.cT K ("law", none)) → ∀ p ∈ [He.cT K ("law", none)], Q p := fun q p hp => by
    rw [List.mem_singleton.mp hp]
    exact q
  refine ⟨K, KX, fd, [He.cT K ("law", none)], spLaw K (He.cT K ("law", none)).2, one c.empty, one c.out, one (PySem.W.codeHd_of_K KX c.hd), fun s u => b s [u] rfl, fun H a ns _ _ hH hS => ⟨a, ns, rfl, hS, fun q hq => ?_, fun _ => rfl⟩, fun base _ _ tb => ok_law T F (tb _ (List.mem_cons_self ..))⟩
  rw [List.mem_singleton.mp hq]
  exact LamX.TabS.nil (hH _ (List.mem_cons_self ..))
end K32

set_option Elab.async false
set_option linter.all false
set_option maxRecDepth 100000
set_option maxHeartbeats 4000000
open PySem PySem.W PySem.Calls PyProof.Rows
theorem PySem.Challenge.cw_pressalike_k32_whole_standings_parted_holds : PySem.Challenge.rw_pressalike_k32_whole_standings_parted.Holds := by
  w_on; o_law
  refine HandSHeadRun.head_any (r := K32.R) (q := K32.qv) (H := K32.hook) (ob := K32.look) (M := 9000) (loose := K32.loose) (d := HandSHeadRun.topDef K32.R.prog 32) (kwd := []) K32.look_eq
    (by kernel_rfl) (fun s => by kernel_rfl) K32.run (by kernel_rfl) (by kernel_rfl) (by kernel_rfl) (by rfl) (by first | assumption | decide +kernel) (by decide +kernel) ⟨rfl, rfl, rfl, rfl, rfl, by decide +kernel⟩ ?hw ?hc
  case hw => w_witness2
  case hc =>
    refine LamX.walk_ofTsE (l := PySem.Challenge.rw_pressalike_k32_whole_standings_parted) (n := 63) (k := 7) (x := "_law_script") (CX := fun _ => L2.CX0) rfl (by decide) (by kernel_rfl) ⟨rfl, by decide, by decide⟩ ?F (fun _ _ _ _ _ z => z)
    intro w mg fa h Y G hmg0
    have hmg : mg ("law" : PySem.Str) = some (.ref fa) := by
      have e : (HandSHeadRun.topDef K32.R.prog 32).name = ("law" : PySem.Str) := by kernel_rfl
      rw [← e]
      exact hmg0
    exact K32.law_at Y G hmg
#print axioms PySem.Challenge.cw_pressalike_k32_whole_standings_parted_holds

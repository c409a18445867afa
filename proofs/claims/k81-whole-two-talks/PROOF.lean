import PyProof.Rows.All
import Wide.All
import OpenK.AllK
import Wide.FinOn
import KE.KStateDown
import HandS.ForMost
import HandS.Defaults
import HandS.Head0
import HandS.Head1
import HandS.Head2
import HandS.HeadEnd
import HandS.HeadHook1
import HandS.HeadHook2
import HandS.TupAny
import HandS.IsInst
import HandS.Flt
import HandS.Steps
import HandS.Style
import HandS.More
import HandS.Walk
import KE.GoesMore
import HandS.Iter
import PySem.Challenge.RW_surewire_k81_whole_two_talks
set_option Elab.async false
set_option linter.all false
section
/-! The mirror: what the program's functions compute, in plain Lean. -/
namespace SW

inductive It where
  | o | e | b (n : Nat)
deriving DecidableEq, Repr

theorem size_is : ∃ n : Nat, n = 4294967296 := ⟨_, rfl⟩
/-- 2 ** 32; a letter for the kernel, which would count it down -/
noncomputable def M : Nat := Classical.choose size_is
theorem M_eq : M = 4294967296 := Classical.choose_spec size_is
noncomputable section
def moved (a n : Nat) : Nat := (a + n) % M
def far (a b : Nat) : Nat := (b + M - a) % M

/-! ### Giver -/
structure Gv where
  base : Nat
  wait : Nat
  kept : List It
  sent : Nat
  reach : Nat
  pace : Nat
  since : Option Nat
  tried : Nat
  passed : Nat
  fin : Bool
  now : Nat
deriving Repr

def Gv.new (f : Nat) : Gv := ⟨f, 4, [.o], 0, 1, 32, none, 0, 0, false, 0⟩
def Gv.counted (g : Gv) : Bool := decide (0 < g.sent) || (decide (0 < g.kept.length) && decide (g.reach = 0))
def Gv.count (g : Gv) (t : Nat) : Gv :=
  if g.counted = true then (match g.since with | none => { g with since := some t } | some _ => g) else { g with since := none }
/-- how many kept items are no "o" -/
def full (l : List It) : Nat := (l.filter fun i => decide (i ≠ .o)).length
def Gv.many (g : Gv) (d : List Nat) : Nat := if g.fin = true then 0 else min d.length (512 - full g.kept)
def Gv.write (g : Gv) (d : List Nat) : Gv := { g with kept := g.kept ++ (d.take (g.many d)).map .b }
def Gv.finish (g : Gv) : Gv := { g with kept := if g.fin = true then g.kept else g.kept ++ [.e], fin := true }
def Gv.next (g : Gv) : Nat := moved g.base g.sent
/-- what `heard` does where the answer counts, by so many items -/
def Gv.got (g : Gv) (ans many room t : Nat) : Gv :=
  { g with now := t, tried := 0, base := ans, kept := g.kept.drop many, sent := g.sent - many, passed := g.passed + many, reach := max (g.reach - many) room,
           wait := if 0 < many then 4 else g.wait, since := if 0 < many then none else g.since, pace := if 0 < many then min 512 (g.pace + 32) else g.pace }
def Gv.heard (g : Gv) (ans room t : Nat) : Gv :=
  if g.sent < far g.base ans then { g with now := t } else (g.got ans (far g.base ans) room t).count t
def Gv.isAgain (g : Gv) (t : Nat) : Bool := match g.since with | none => false | some s => decide (s + g.wait ≤ t)
def Gv.again (g : Gv) (t : Nat) : Gv :=
  if g.isAgain t = true then { g with wait := min (2 * g.wait) 64, since := some t, tried := g.tried + 1, pace := 32 } else g
def Gv.againPairs (g : Gv) (t : Nat) : List (Nat × List It) := if g.isAgain t = true then [(g.base, g.kept.take (min 32 g.sent))] else []
def chunks (base : Nat) (kept : List It) (sent last : Nat) : List (Nat × List It) :=
  if h : sent < last then (moved base sent, (kept.drop sent).take (min 32 (last - sent))) :: chunks base kept (sent + min 32 (last - sent)) last else []
termination_by last - sent
decreasing_by omega
def Gv.last (g : Gv) : Nat := min (min g.kept.length g.reach) g.pace
def Gv.fill (g : Gv) (t : Nat) : Gv := ({ g with sent := max g.sent g.last } : Gv).count t
/-- the state ahead of the filling -/
def Gv.due1 (g : Gv) (t : Nat) : Gv := (({ g with now := t } : Gv).count t).again t
def Gv.due (g : Gv) (t : Nat) : Gv := (g.due1 t).fill t
def Gv.duePairs (g : Gv) (t : Nat) : List (Nat × List It) :=
  (({ g with now := t } : Gv).count t).againPairs t ++ chunks (g.due1 t).base (g.due1 t).kept (g.due1 t).sent (g.due1 t).last

/-! ### Taker -/
def aget (l : List (Nat × It)) (k : Nat) : Option It := (l.find? fun p => decide (p.1 = k)).map (·.2)
def adrop (l : List (Nat × It)) (k : Nat) : List (Nat × It) := l.filter fun p => decide (p.1 ≠ k)
structure Tk where
  wanted : Nat
  ahead : List (Nat × It)
  unread : List Nat
  over : Bool
deriving Repr
def Tk.new (w : Nat) : Tk := ⟨w, [], [], false⟩
def Tk.free (t : Tk) : Nat := 128 - t.unread.length
/-- an item is laid ahead -/
def layOne (w f k : Nat) (it : It) (a : List (Nat × It)) : List (Nat × It) := if far w k < f ∧ aget a k = none then a ++ [(k, it)] else a
/-- the items from the n-th on are laid ahead -/
def lay (w f num : Nat) : Nat → List It → List (Nat × It) → List (Nat × It)
  | _, [], a => a
  | n, it :: r, a => lay w f num (n + 1) r (layOne w f (moved num n) it a)
def Tk.come (t : Tk) (it : It) : Tk := match it with
  | .e => { t with wanted := moved t.wanted 1, over := true, ahead := [] }
  | .o => { t with wanted := moved t.wanted 1 }
  | .b n => { t with wanted := moved t.wanted 1, unread := t.unread ++ [n] }
def Tk.run : Nat → Tk → Tk
  | 0, t => t
  | n + 1, t => if t.over = true then t else match aget t.ahead t.wanted with
    | none => t
    | some it => Tk.run n (({ t with ahead := adrop t.ahead t.wanted } : Tk).come it)
def Tk.laid (t : Tk) (num : Nat) (items : List It) : Tk := { t with ahead := lay t.wanted t.free num 0 items t.ahead }
def Tk.take (t : Tk) (num : Nat) (items : List It) : Tk := if t.over = true then t else (t.laid num items).run (t.laid num items).ahead.length
def Tk.read (t : Tk) (n : Nat) : Tk := { t with unread := t.unread.drop n }

/-! ### Segments -/
structure Sg where
  src : Nat
  tgt : Nat
  a : Bool
  c : Bool
  e : Bool
  o : Bool
  q : Bool
  number : Nat
  answer : Nat
  room : Nat
  data : List Nat
deriving Repr
def Sg.items (s : Sg) : List It := (if s.o = true then [.o] else []) ++ (s.data.map .b ++ (if s.e = true then [.e] else []))

/-! ### Talks -/
inductive Ending where
  | no | cut | gone
deriving DecidableEq, Repr
inductive Stand where
  | cut | gone | calls | answers | rests | closed | left | ends | opn
deriving DecidableEq, Repr
structure Tl where
  here : Nat
  there : Nat
  first : Nat
  g : Gv
  t : Option Tk
  other : Option Nat
  last : Nat
  ending : Ending
  fin : Bool
  rested : Option Nat
deriving Repr
def Tl.begin (tl : Tl) (num : Nat) : Tl := { tl with t := some (.new (moved num 1)), other := some num }
def Tl.new0 (here there first tick : Nat) : Tl := ⟨here, there, first, .new first, none, none, tick, .no, false, none⟩
def Tl.new (here there first tick : Nat) (opening : Option Nat) : Tl := match opening with
  | none => .new0 here there first tick
  | some n => (Tl.new0 here there first tick).begin n
def Tl.isOpen (tl : Tl) : Bool := decide (0 < tl.g.passed)
def Tl.tover (tl : Tl) : Bool := match tl.t with | none => false | some t => t.over
def Tl.stand (tl : Tl) : Stand := match tl.ending with
  | .cut => .cut
  | .gone => .gone
  | .no => if tl.isOpen = true then (match tl.rested with
      | some s => if tl.last < s + 120 then .rests else .closed
      | none => if tl.tover = true then .left else if tl.fin = true then .ends else .opn)
    else if tl.t.isNone = true then .calls else .answers
def Tl.isOver (tl : Tl) : Bool := decide (tl.stand = .cut) || (decide (tl.stand = .gone) || decide (tl.stand = .closed))
def Tl.isAnswer (tl : Tl) (ans : Nat) : Bool :=
  if far (moved tl.first tl.g.passed) tl.g.next < far (moved tl.first tl.g.passed) ans then false
  else tl.isOpen || decide (ans = moved tl.first 1)
def Tl.isCutBy (tl : Tl) (s : Sg) : Bool :=
  if s.a = true ∧ tl.isOpen = false then true else match tl.t with
    | none => false
    | some t => decide (far t.wanted s.number ≤ t.free)
/-- a segment to the other end -/
def Tl.made (tl : Tl) (a c e o q : Bool) (num : Nat) (data : List Nat) : Sg :=
  { src := tl.here, tgt := tl.there, a := a, c := c, e := e, o := o, q := q, number := num, data := data,
    answer := if a = true then (match tl.t with | none => 0 | some t => t.wanted) else 0,
    room := if a = true then (match tl.t with | none => 0 | some t => t.free) else 0 }
def bytesOf : List It → List Nat
  | [] => []
  | .b n :: r => n :: bytesOf r
  | _ :: r => bytesOf r
def Tl.segmentOf (tl : Tl) (num : Nat) (items : List It) : Sg :=
  tl.made tl.t.isSome false (decide (It.e ∈ items)) (decide (It.o ∈ items)) (decide (items = [])) num (bytesOf items)
def Tk.takes (t : Tk) (num : Nat) (items : List It) : Tk := match items with
  | .o :: r => t.take (moved num 1) r
  | l => t.take num l
def Tl.takes (tl : Tl) (num : Nat) (items : List It) : Tl := { tl with t := tl.t.map fun t => t.takes num items }
/-- behind the giver and the taker -/
def Tl.rest (tl : Tl) (t : Nat) : Tl :=
  { tl with rested := if tl.rested = none ∧ tl.fin = true ∧ tl.tover = true ∧ tl.g.kept.length = 0 then some t else tl.rested }
def Tl.hearA (tl : Tl) (s : Sg) (t : Nat) : Tl := if s.a = true then ({ tl with g := tl.g.heard s.answer s.room t } : Tl).takes s.number s.items else tl
def Tl.counted (tl : Tl) (s : Sg) (t : Nat) : Tl := (tl.hearA s t).rest t
def Tl.reply (tl : Tl) (s : Sg) : List Sg := if s.items ≠ [] ∨ s.q = true then [tl.made true false false false false tl.g.next []] else []
/-- the state ahead of what is counted -/
def Tl.heard1 (tl : Tl) (s : Sg) : Tl := if tl.t.isNone = true then tl.begin s.number else tl
inductive Way where
  | dead | drop | bad | cuts | early | counts
deriving DecidableEq
/-- which way `heard` goes -/
def Tl.way (tl : Tl) (s : Sg) : Way :=
  if tl.isOver = true then .dead
  else if s.a = true ∧ tl.isAnswer s.answer = false then (if tl.isOpen = true ∨ s.c = true then .drop else .bad)
  else if s.c = true then .cuts
  else if tl.t.isNone = true ∧ (s.o = false ∨ s.a = false) then .early
  else .counts
def Tl.at_ (tl : Tl) (t : Nat) : Tl := { tl with last := t }
def Tl.heard (tl : Tl) (s : Sg) (t : Nat) : Tl := match (tl.at_ t).way s with
  | .cuts => if (tl.at_ t).isCutBy s = true then { tl.at_ t with ending := .cut } else tl.at_ t
  | .counts => ((tl.at_ t).heard1 s).counted s t
  | _ => tl.at_ t
def Tl.heardOut (tl : Tl) (s : Sg) (t : Nat) : List Sg := match (tl.at_ t).way s with
  | .bad => [(tl.at_ t).made false true false false false s.answer []]
  | .counts => (((tl.at_ t).heard1 s).counted s t).reply s
  | _ => []
def Tl.dueG (tl : Tl) (t : Nat) : Tl := { tl.at_ t with g := tl.g.due t }
def Tl.due (tl : Tl) (t : Nat) : Tl :=
  if (tl.at_ t).isOver = true then tl.at_ t else if 16 ≤ (tl.dueG t).g.tried then { tl.dueG t with ending := .gone } else tl.dueG t
def Tl.dueOut (tl : Tl) (t : Nat) : List Sg :=
  if (tl.at_ t).isOver = true then [] else if 16 ≤ (tl.dueG t).g.tried then [] else (tl.g.duePairs t).map fun p => (tl.dueG t).segmentOf p.1 p.2
def Tl.cut (tl : Tl) : Tl := if tl.isOver = true then tl else { tl with ending := .cut }
def Tl.cutOut (tl : Tl) : List Sg := if tl.isOver = true then [] else [({ tl with ending := .cut } : Tl).made false true false false false tl.g.next []]
def Tl.many (tl : Tl) (d : List Nat) : Nat := if tl.isOver = true then 0 else tl.g.many d
def Tl.write (tl : Tl) (d : List Nat) : Tl := if tl.isOver = true then tl else { tl with g := tl.g.write d }
def Tl.finish (tl : Tl) : Tl := if tl.isOver = true then tl else { tl with fin := true, g := tl.g.finish }
def Tl.read (tl : Tl) (n : Nat) : Tl := { tl with t := tl.t.map fun t => t.read n }
def Tl.readOut (tl : Tl) (n : Nat) : List Nat := match tl.t with | none => [] | some t => t.unread.take n
def Tl.ready (tl : Tl) : Nat := match tl.t with | none => 0 | some t => t.unread.length

/-! ### The world of the law -/
structure Wd where
  port : Bool → Nat
  first : Bool → Nat
  road : Bool → List Sg
  wrote : Bool → List Nat
  has : Bool → List Nat
  now : Nat
  talk : Bool → Option Tl
  told : Bool → Bool
  cuts : Bool
def put {α : Type} (f : Bool → α) (x : Bool) (v : α) : Bool → α := fun y => if y = x then v else f y
theorem put_same {α : Type} (f : Bool → α) (x : Bool) (v : α) : put f x v x = v := if_pos rfl
theorem put_ne {α : Type} (f : Bool → α) {x y : Bool} (v : α) (h : y ≠ x) : put f x v y = f y := if_neg h
theorem put_not {α : Type} (f : Bool → α) (x : Bool) (v : α) : put f x v (!x) = f (!x) := put_ne _ _ (by cases x <;> decide)
theorem put_not' {α : Type} (f : Bool → α) (x : Bool) (v : α) : put f (!x) v x = f x := put_ne _ _ (by cases x <;> decide)
def Wd.begun (port first : Bool → Nat) : Wd :=
  { port := port, first := first, road := fun _ => [], wrote := fun _ => [], has := fun _ => [], now := 0,
    talk := put (fun _ => none) false (some (.new (port false) (port true) (first false) 0 none)), told := fun _ => false, cuts := false }
/-- end x is changed to tl, and what it tells goes -/
def Wd.upd (w : Wd) (x : Bool) (tl : Tl) (out : List Sg) : Wd := { w with talk := put w.talk x (some tl), road := put w.road (!x) (w.road (!x) ++ out) }
def Wd.seen (w : Wd) (s : Sg) : Wd := { w with cuts := w.cuts || s.c }
def Wd.come (w : Wd) (x : Bool) (s : Sg) : Wd := match w.talk x with
  | some tl => (w.seen s).upd x (tl.heard s w.now) (tl.heardOut s w.now)
  | none => if s.o = true ∧ s.a = false ∧ s.c = false then
      { w.seen s with talk := put w.talk x (some (.new (w.port true) (w.port false) (w.first true) w.now (some s.number))) } else w.seen s
def Wd.due (w : Wd) (x : Bool) : Wd := match w.talk x with
  | none => w
  | some tl => w.upd x (tl.due w.now) (tl.dueOut w.now)
def Wd.ticked (w : Wd) (many : Nat) : Wd := (({ w with now := w.now + many } : Wd).due false).due true
def Wd.take (w : Wd) (x : Bool) (i : Nat) : Wd := { w with road := put w.road x (w.road x |>.eraseIdx i) }
def Wd.write (w : Wd) (x : Bool) (d : List Nat) : Wd := match w.talk x with
  | none => w
  | some tl => { w with talk := put w.talk x (some (tl.write d)), wrote := put w.wrote x (w.wrote x ++ d.take (tl.many d)) }
def Wd.read (w : Wd) (x : Bool) (n : Nat) : Wd := match w.talk x with
  | none => w
  | some tl => { w with talk := put w.talk x (some (tl.read n)), has := put w.has x (w.has x ++ tl.readOut n) }
def Wd.finish (w : Wd) (x : Bool) : Wd := match w.talk x with
  | none => w
  | some tl => { w with talk := put w.talk x (some tl.finish) }
def Wd.tell (w : Wd) (x : Bool) : Wd := { w with told := put w.told x true }
def Wd.cut (w : Wd) (x : Bool) : Wd := match w.talk x with
  | none => w
  | some tl => ({ w with cuts := true } : Wd).upd x tl.cut tl.cutOut
/-- the first thing that lies comes -/
def Wd.step (w : Wd) : Wd := match w.road false with
  | s :: r => ({ w with road := put w.road false r } : Wd).come false s
  | [] => match w.road true with
    | s :: r => ({ w with road := put w.road true r } : Wd).come true s
    | [] => w
end
end SW
end
section
/-! Numbers that go round; streams; what a slice of a stream is. -/
namespace SW

theorem moved_lt (a n : Nat) : moved a n < 4294967296 := by unfold moved; rw [M_eq]; omega
theorem far_lt (a b : Nat) : far a b < 4294967296 := by unfold far; rw [M_eq]; omega
theorem far_moved {f k : Nat} (hf : f < 4294967296) (hk : k < 4294967296) : far f (moved f k) = k := by unfold far moved; rw [M_eq]; omega
theorem moved_far {f b : Nat} (hf : f < 4294967296) (hb : b < 4294967296) : moved f (far f b) = b := by unfold far moved; rw [M_eq]; omega
theorem moved_moved (f i j : Nat) : moved (moved f i) j = moved f (i + j) := by unfold moved; rw [M_eq]; omega
theorem moved_zero {f : Nat} (hf : f < 4294967296) : moved f 0 = f := by unfold moved; rw [M_eq]; omega
theorem far_self {f : Nat} (hf : f < 4294967296) : far f f = 0 := by unfold far; rw [M_eq]; omega
theorem far_far {f a b : Nat} (hf : f < 4294967296) (ha : a < 4294967296) (hb : b < 4294967296) : far a b = (far f b + 4294967296 - far f a) % 4294967296 := by unfold far; rw [M_eq]; omega
theorem far_up {f a b : Nat} (hf : f < 4294967296) (ha : a < 4294967296) (hb : b < 4294967296) (h : far f a ≤ far f b) : far a b = far f b - far f a := by
  rw [far_far hf ha hb]
  have h1 := far_lt f b
  omega
theorem far_down {f a b : Nat} (hf : f < 4294967296) (ha : a < 4294967296) (hb : b < 4294967296) (h : far f b < far f a) : far a b = far f b + 4294967296 - far f a := by
  rw [far_far hf ha hb]
  have h1 := far_lt f a
  omega
theorem far_next {f a : Nat} (hf : f < 4294967296) (ha : a < 4294967296) (h : far f a + 1 < 4294967296) : far f (moved a 1) = far f a + 1 := by
  unfold far moved at *; rw [M_eq] at *; omega
theorem far_inj {f a b : Nat} (hf : f < 4294967296) (ha : a < 4294967296) (hb : b < 4294967296) (h : far f a = far f b) : a = b := by
  rw [← moved_far hf ha, ← moved_far hf hb, h]

/-! ### streams -/
def tl_ (fin : Bool) : List It := if fin = true then [.e] else []
def strm (wr : List Nat) (fin : Bool) : List It := .o :: (wr.map .b ++ tl_ fin)
def slen (wr : List Nat) (fin : Bool) : Nat := wr.length + 1 + (if fin = true then 1 else 0)
theorem strm_len (wr : List Nat) (fin : Bool) : (strm wr fin).length = slen wr fin := by
  unfold strm slen tl_
  cases fin <;> simp <;> omega
theorem strm_zero (wr : List Nat) (fin : Bool) : (strm wr fin)[0]? = some .o := rfl
theorem strm_o {wr : List Nat} {fin : Bool} {i : Nat} (h : (strm wr fin)[i]? = some .o) : i = 0 := by
  cases i with
  | zero => rfl
  | succ i =>
    have h1 : (wr.map It.b ++ tl_ fin)[i]? = some .o := h
    rw [List.getElem?_append] at h1
    by_cases c : i < (wr.map It.b).length
    · rw [if_pos c, List.getElem?_map] at h1
      cases q : wr[i]? with
      | none => rw [q] at h1; cases h1
      | some n => rw [q] at h1; cases h1
    · rw [if_neg c] at h1
      unfold tl_ at h1
      cases fin with
      | false => simp at h1
      | true =>
        have hm := List.mem_of_getElem? h1
        simp at hm
theorem strm_e {wr : List Nat} {fin : Bool} {i : Nat} (h : (strm wr fin)[i]? = some .e) : fin = true ∧ i = wr.length + 1 := by
  cases i with
  | zero => cases h
  | succ i =>
    have h1 : (wr.map It.b ++ tl_ fin)[i]? = some .e := h
    rw [List.getElem?_append] at h1
    by_cases c : i < (wr.map It.b).length
    · rw [if_pos c, List.getElem?_map] at h1
      cases q : wr[i]? with
      | none => rw [q] at h1; cases h1
      | some n => rw [q] at h1; cases h1
    · rw [if_neg c] at h1
      unfold tl_ at h1
      cases fin with
      | false => simp at h1
      | true =>
        have hm := (List.getElem?_eq_some_iff.mp h1).1
        simp at hm c
        exact ⟨rfl, by omega⟩
theorem strm_b {wr : List Nat} {fin : Bool} {i n : Nat} (h : (strm wr fin)[i]? = some (.b n)) : 1 ≤ i ∧ wr[i - 1]? = some n := by
  cases i with
  | zero => cases h
  | succ i =>
    have h1 : (wr.map It.b ++ tl_ fin)[i]? = some (.b n) := h
    rw [List.getElem?_append] at h1
    by_cases c : i < (wr.map It.b).length
    · rw [if_pos c, List.getElem?_map] at h1
      cases q : wr[i]? with
      | none => rw [q] at h1; cases h1
      | some m => rw [q] at h1; exact ⟨by omega, by simpa [q] using h1⟩
    · rw [if_neg c] at h1
      unfold tl_ at h1
      cases fin with
      | false => simp at h1
      | true =>
        have hm := List.mem_of_getElem? h1
        simp at hm
theorem strm_write (wr d : List Nat) : strm (wr ++ d) false = strm wr false ++ d.map .b := by
  unfold strm tl_; simp
theorem strm_finish (wr : List Nat) : strm wr true = strm wr false ++ [.e] := by
  unfold strm tl_; simp

/-! ### slices -/
def glue (l : List It) : List It := (if decide (It.o ∈ l) = true then [.o] else []) ++ ((bytesOf l).map .b ++ (if decide (It.e ∈ l) = true then [.e] else []))
theorem bytesOf_map (w : List Nat) : bytesOf (w.map It.b) = w := by
  induction w with
  | nil => rfl
  | cons n r ih => show n :: bytesOf (r.map It.b) = _; rw [ih]
theorem bytesOf_append (l m : List It) : bytesOf (l ++ m) = bytesOf l ++ bytesOf m := by
  induction l with
  | nil => rfl
  | cons a r ih =>
    cases a with
    | o => exact ih
    | e => exact ih
    | b n => show n :: bytesOf (r ++ m) = _; rw [ih]; rfl
theorem glue_plain (w : List Nat) (q : List It) (hq : q = [] ∨ q = [.e]) : glue (w.map .b ++ q) = w.map .b ++ q := by
  unfold glue
  rw [bytesOf_append, bytesOf_map]
  have ho : ¬ It.o ∈ w.map It.b := by simp
  have he : ¬ It.e ∈ w.map It.b := by simp
  rcases hq with rfl | rfl
  · simp
    rfl
  · simp
    rfl
theorem glue_o (w : List Nat) (q : List It) (hq : q = [] ∨ q = [.e]) : glue (.o :: (w.map .b ++ q)) = .o :: (w.map .b ++ q) := by
  have h := glue_plain w q hq
  unfold glue at *
  show _ ++ ((bytesOf (w.map It.b ++ q)).map It.b ++ _) = _
  have ho : ¬ It.o ∈ w.map It.b ++ q := by rcases hq with rfl | rfl <;> simp
  rw [if_neg (by simpa using ho)] at h
  rw [if_pos (by simp)]
  have e1 : decide (It.e ∈ It.o :: (w.map It.b ++ q)) = decide (It.e ∈ w.map It.b ++ q) := by simp
  rw [e1]
  exact congrArg (It.o :: ·) h
theorem take_tail (fin : Bool) (n m : Nat) : ((tl_ fin).drop n).take m = [] ∨ ((tl_ fin).drop n).take m = [.e] := by
  unfold tl_
  cases fin with
  | false => left; simp
  | true =>
    cases n with
    | zero => cases m with
      | zero => left; rfl
      | succ m => right; simp
    | succ n => left; simp
theorem glue_slice (wr : List Nat) (fin : Bool) (n m : Nat) : glue (((strm wr fin).drop n).take m) = ((strm wr fin).drop n).take m := by
  have body : ∀ n m, ∃ (w : List Nat) (q : List It), (q = [] ∨ q = [.e]) ∧ ((wr.map It.b ++ tl_ fin).drop n).take m = w.map .b ++ q := fun n m => by
    refine ⟨(wr.drop n).take m, ((tl_ fin).drop (n - wr.length)).take (m - (wr.length - n)), take_tail _ _ _, ?_⟩
    rw [List.drop_append, List.take_append, List.map_take, List.map_drop]
    simp
  cases n with
  | zero =>
    cases m with
    | zero => rfl
    | succ m =>
      obtain ⟨w, q, hq, e⟩ := body 0 m
      have e1 : ((strm wr fin).drop 0).take (m + 1) = .o :: (w.map .b ++ q) := by
        rw [← e]; rfl
      rw [e1]
      exact glue_o w q hq
  | succ n =>
    obtain ⟨w, q, hq, e⟩ := body n m
    have e1 : ((strm wr fin).drop (n + 1)).take m = w.map .b ++ q := by
      rw [← e]; rfl
    rw [e1]
    exact glue_plain w q hq
end SW
end
section
/-! What holds of a giver, a taker, a segment. -/
namespace SW

/-- since when, at least, things went again so often -/
def tau : Nat → Nat
  | 0 => 0 | 1 => 4 | 2 => 12 | 3 => 28 | n + 4 => 60 + 64 * n
def wmin : Nat → Nat
  | 0 => 4 | 1 => 8 | 2 => 16 | 3 => 32 | _ => 64
theorem wmin_le (k : Nat) : wmin k ≤ 64 := by
  unfold wmin; split <;> omega
theorem wmin_next (k : Nat) : wmin (k + 1) ≤ min (2 * wmin k) 64 := by
  match k with
  | 0 => decide
  | 1 => decide
  | 2 => decide
  | 3 => decide
  | k + 4 => show 64 ≤ min (2 * 64) 64; decide
theorem tau_next (k : Nat) : tau (k + 1) = tau k + wmin k := by
  match k with
  | 0 => rfl
  | 1 => rfl
  | 2 => rfl
  | 3 => rfl
  | k + 4 => show 60 + 64 * (k + 1) = 60 + 64 * k + 64; omega

structure GBase (f : Nat) (wr : List Nat) (now : Nat) (g : Gv) : Prop where
  fl : f < 4294967296
  kept : g.kept = (strm wr g.fin).drop g.passed
  ple : g.passed ≤ slen wr g.fin
  base : g.base = moved f g.passed
  sent : g.sent ≤ g.kept.length
  zero : g.passed = 0 → g.reach = 1 ∧ g.sent ≤ 1
  pace : 32 ≤ g.pace ∧ g.pace ≤ 512
  wait : 4 ≤ g.wait ∧ g.wait ≤ 64
  gnow : g.now ≤ now
  room : g.fin = false → full g.kept ≤ 512
  len : wr.length ≤ 5000
structure GInv (f : Nat) (wr : List Nat) (now : Nat) (g : Gv) : Prop extends GBase f wr now g where
  since : ∀ s, g.since = some s → s ≤ now
  tried : 0 < g.tried → g.counted = true ∧ ∃ s, g.since = some s ∧ tau g.tried ≤ s
  wm : wmin g.tried ≤ g.wait
  sc : 0 < g.sent → g.since ≠ none

section
variable {f : Nat} {wr : List Nat} {now : Nat} {g : Gv}
theorem GInv.klen (I : GInv f wr now g) : g.kept.length = slen wr g.fin - g.passed := by
  rw [I.kept, List.length_drop, strm_len]
theorem slen_le (wr : List Nat) (fin : Bool) : slen wr fin ≤ wr.length + 2 := by unfold slen; split <;> omega
theorem slen_ge (wr : List Nat) (fin : Bool) : wr.length + 1 ≤ slen wr fin := by unfold slen; split <;> omega
theorem GInv.hwle (I : GInv f wr now g) : g.passed + g.sent ≤ slen wr g.fin := by
  have h1 := I.sent
  rw [I.klen] at h1
  have h2 := I.ple
  omega
theorem GInv.hwlt (I : GInv f wr now g) : g.passed + g.sent < 4294967296 := by
  have h := I.hwle
  have h1 := slen_le wr g.fin
  have h2 := I.len
  omega
theorem GInv.fbase (I : GInv f wr now g) : far f g.base = g.passed := by
  rw [I.base, far_moved I.fl (by have := I.hwlt; omega)]
theorem GInv.basel (I : GInv f wr now g) : g.base < 4294967296 := by rw [I.base]; exact moved_lt _ _
theorem GInv.next (I : GInv f wr now g) : g.next = moved f (g.passed + g.sent) := by
  unfold Gv.next
  rw [I.base, moved_moved]
theorem counted_kept {g g' : Gv} (h : g.counted = true) (h1 : g.sent ≤ g'.sent) (h2 : g.kept.length ≤ g'.kept.length) (h3 : g'.reach = g.reach) : g'.counted = true := by
  unfold Gv.counted at *
  simp only [Bool.or_eq_true, Bool.and_eq_true, decide_eq_true_eq] at *
  rcases h with h | h
  · left; omega
  · right; rw [h3]; exact ⟨by omega, h.2⟩
theorem GInv.start (hf : f < 4294967296) : GInv f [] now (.new f) where
  fl := hf
  kept := rfl
  ple := Nat.zero_le _
  base := (moved_zero hf).symm
  sent := Nat.zero_le _
  zero := fun _ => ⟨rfl, Nat.zero_le _⟩
  pace := ⟨Nat.le_refl 32, by show 32 ≤ 512; omega⟩
  wait := ⟨Nat.le_refl 4, by show 4 ≤ 64; omega⟩
  since := fun s e => by cases e
  gnow := Nat.zero_le _
  room := fun _ => by show full [.o] ≤ 512; decide
  tried := fun h => absurd h (Nat.lt_irrefl 0)
  wm := Nat.le_refl 4
  sc := fun h => absurd h (Nat.lt_irrefl 0)
  len := Nat.zero_le _
theorem GInv.later (I : GInv f wr now g) {t : Nat} (h : now ≤ t) : GInv f wr t g := { I with
  since := fun s e => Nat.le_trans (I.since s e) h
  gnow := Nat.le_trans I.gnow h }
theorem full_append (a b : List It) : full (a ++ b) = full a + full b := by
  unfold full; rw [List.filter_append, List.length_append]
theorem full_map (d : List Nat) : full (d.map .b) = d.length := by
  unfold full
  rw [List.filter_eq_self.mpr, List.length_map]
  intro x hx
  obtain ⟨n, _, rfl⟩ := List.mem_map.mp hx
  exact decide_eq_true (fun h => nomatch h)
theorem full_drop (a : List It) (n : Nat) : full (a.drop n) ≤ full a := by
  have h : full (a.take n ++ a.drop n) = full (a.take n) + full (a.drop n) := full_append _ _
  rw [List.take_append_drop] at h
  omega
theorem GInv.write (I : GInv f wr now g) {d : List Nat} (hd : wr.length + d.length ≤ 5000) : GInv f (wr ++ d.take (g.many d)) now (g.write d) := by
  cases hfin : g.fin with
  | true =>
    have e : g.many d = 0 := by unfold Gv.many; rw [if_pos hfin]
    have e2 : g.write d = g := by unfold Gv.write; rw [e]; simp
    rw [e2, e]
    simpa using I
  | false =>
    have em : g.many d = min d.length (512 - full g.kept) := by unfold Gv.many; rw [if_neg (by rw [hfin]; decide)]
    have hk : (g.write d).kept = g.kept ++ (d.take (g.many d)).map .b := rfl
    have hs : strm (wr ++ d.take (g.many d)) false = strm wr false ++ (d.take (g.many d)).map .b := strm_write _ _
    have hp := I.ple
    have hl : wr.length ≤ (wr ++ d.take (g.many d)).length := by rw [List.length_append]; omega
    have hslen : slen wr false = (strm wr false).length := (strm_len _ _).symm
    refine ⟨⟨I.fl, ?_, ?_, I.base, ?_, I.zero, I.pace, I.wait, I.gnow, fun _ => ?_, ?_⟩, I.since, fun h => ?_, I.wm, I.sc⟩
    · show g.kept ++ _ = (strm (wr ++ d.take (g.many d)) g.fin).drop g.passed
      rw [hfin] at hp ⊢
      rw [hs, I.kept, hfin, List.drop_append_of_le_length (by rw [← hslen]; exact hp)]
    · show g.passed ≤ slen (wr ++ d.take (g.many d)) g.fin
      rw [hfin] at hp ⊢
      unfold slen at *
      omega
    · show g.sent ≤ (g.kept ++ _).length
      have := I.sent
      rw [List.length_append]
      omega
    · show full (g.kept ++ _) ≤ 512
      have h1 := I.room hfin
      rw [full_append, full_map, em, List.length_take]
      omega
    · rw [List.length_append, List.length_take]
      omega
    · obtain ⟨c, s, e, h2⟩ := I.tried h
      exact ⟨counted_kept c (Nat.le_refl _) (by rw [hk, List.length_append]; omega) rfl, s, e, h2⟩
theorem GInv.finish (I : GInv f wr now g) : GInv f wr now g.finish := by
  cases hfin : g.fin with
  | true =>
    have e2 : g.finish = g := by
      unfold Gv.finish
      rw [if_pos hfin, ← hfin]
    rw [e2]
    exact I
  | false =>
    have hk : g.finish.kept = g.kept ++ [.e] := by
      show (if g.fin = true then g.kept else g.kept ++ [.e]) = _
      rw [hfin]
      simp
    have hp := I.ple
    have hslen : slen wr false = (strm wr false).length := (strm_len _ _).symm
    refine ⟨⟨I.fl, ?_, ?_, I.base, ?_, I.zero, I.pace, I.wait, I.gnow, fun h => ?_, I.len⟩, I.since, fun h => ?_, I.wm, I.sc⟩
    · rw [hk]
      show _ = (strm wr true).drop g.passed
      rw [hfin] at hp
      rw [strm_finish, I.kept, hfin, List.drop_append_of_le_length (by rw [← hslen]; exact hp)]
    · show g.passed ≤ slen wr true
      rw [hfin] at hp
      unfold slen at *
      simp at *
      omega
    · rw [hk, List.length_append]
      have := I.sent
      show g.sent ≤ _
      omega
    · cases h
    · obtain ⟨c, s, e, h2⟩ := I.tried h
      exact ⟨counted_kept c (Nat.le_refl _) (by rw [hk, List.length_append]; omega) rfl, s, e, h2⟩
/-- counting, where what is asked of the time holds -/
theorem Gv.count_fields (g : Gv) (t : Nat) : (g.count t).base = g.base ∧ (g.count t).wait = g.wait ∧ (g.count t).kept = g.kept ∧ (g.count t).sent = g.sent ∧ (g.count t).reach = g.reach ∧ (g.count t).pace = g.pace ∧
    (g.count t).tried = g.tried ∧ (g.count t).passed = g.passed ∧ (g.count t).fin = g.fin ∧ (g.count t).now = g.now := by
  unfold Gv.count
  by_cases h : g.counted = true
  · rw [if_pos h]
    cases e : g.since with
    | none => exact ⟨rfl, rfl, rfl, rfl, rfl, rfl, rfl, rfl, rfl, rfl⟩
    | some s => exact ⟨rfl, rfl, rfl, rfl, rfl, rfl, rfl, rfl, rfl, rfl⟩
  · rw [if_neg h]
    exact ⟨rfl, rfl, rfl, rfl, rfl, rfl, rfl, rfl, rfl, rfl⟩
theorem Gv.count_counted (g : Gv) (t : Nat) : (g.count t).counted = g.counted := by
  obtain ⟨_, _, e1, e2, e3, _⟩ := g.count_fields t
  unfold Gv.counted
  rw [e1, e2, e3]
theorem Gv.count_since (g : Gv) (t : Nat) : (g.count t).since = if g.counted = true then (match g.since with | none => some t | some s => some s) else none := by
  unfold Gv.count
  by_cases h : g.counted = true
  · rw [if_pos h, if_pos h]
    cases e : g.since with
    | none => rfl
    | some s => exact e
  · rw [if_neg h, if_neg h]
/-- counting makes it whole -/
theorem GBase.count {t : Nat} (I : GBase f wr t g) (h1 : ∀ s, g.since = some s → s ≤ t) (h2 : 0 < g.tried → g.counted = true ∧ ∃ s, g.since = some s ∧ tau g.tried ≤ s) (h3 : wmin g.tried ≤ g.wait) : GInv f wr t (g.count t) := by
  obtain ⟨e1, e2, e3, e4, e5, e6, e7, e8, e9, e10⟩ := g.count_fields t
  have es := g.count_since t
  refine ⟨⟨I.fl, ?_, ?_, ?_, ?_, ?_, ?_, ?_, ?_, ?_, I.len⟩, ?_, ?_, ?_, ?_⟩
  · rw [e3, e9, e8]; exact I.kept
  · rw [e8, e9]; exact I.ple
  · rw [e1, e8]; exact I.base
  · rw [e4, e3]; exact I.sent
  · rw [e8, e5, e4]; exact I.zero
  · rw [e6]; exact I.pace
  · rw [e2]; exact I.wait
  · rw [e10]; exact I.gnow
  · rw [e9, e3]; exact I.room
  · intro s h
    rw [es] at h
    by_cases c : g.counted = true
    · rw [if_pos c] at h
      cases q : g.since with
      | none => rw [q] at h; cases h; exact Nat.le_refl _
      | some u =>
        rw [q] at h
        have e : u = s := Option.some.inj h
        rw [← e]
        exact h1 u q
    · rw [if_neg c] at h; cases h
  · intro h
    rw [e7] at h ⊢
    obtain ⟨c, s, q, h4⟩ := h2 h
    refine ⟨by rw [g.count_counted]; exact c, s, ?_, h4⟩
    rw [es, if_pos c, q]
  · rw [e7, e2]; exact h3
  · intro h
    rw [e4] at h
    have c : g.counted = true := by unfold Gv.counted; simp [h]
    rw [es, if_pos c]
    cases g.since <;> simp
/-- an answer is heard -/
theorem GInv.far_ans (I : GInv f wr now g) {ans : Nat} (ha : ans < 4294967296) (h2 : far f ans ≤ g.passed + g.sent) :
    far g.base ans = if g.passed ≤ far f ans then far f ans - g.passed else far f ans + 4294967296 - g.passed := by
  have hb := I.fbase
  by_cases c : g.passed ≤ far f ans
  · rw [if_pos c, far_up I.fl I.basel ha (by rw [hb]; exact c), hb]
  · rw [if_neg c, far_down I.fl I.basel ha (by rw [hb]; omega), hb]
theorem GInv.heard_yes (I : GInv f wr now g) {ans room : Nat} (ha : ans < 4294967296) (h2 : far f ans ≤ g.passed + g.sent) (c : g.passed ≤ far f ans) :
    g.heard ans room now = (g.got ans (far f ans - g.passed) room now).count now := by
  have e := I.far_ans ha h2
  rw [if_pos c] at e
  unfold Gv.heard
  rw [e, if_neg (by omega)]
theorem GInv.heard_no (I : GInv f wr now g) {ans room : Nat} (ha : ans < 4294967296) (h2 : far f ans ≤ g.passed + g.sent) (c : far f ans < g.passed) :
    g.heard ans room now = { g with now := now } := by
  have e := I.far_ans ha h2
  rw [if_neg (by omega)] at e
  have := I.hwlt
  have := I.hwle
  have := slen_le wr g.fin
  have := I.len
  unfold Gv.heard
  rw [e, if_pos (by omega)]
theorem GInv.heard (I : GInv f wr now g) {ans room : Nat} (ha : ans < 4294967296) (h1 : 1 ≤ far f ans) (h2 : far f ans ≤ g.passed + g.sent) : GInv f wr now (g.heard ans room now) := by
  by_cases c : g.passed ≤ far f ans
  · rw [I.heard_yes ha h2 c]
    have hk := I.klen
    have hs := I.sent
    have hp := I.ple
    refine GBase.count ?_ ?_ ?_ ?_
    · refine ⟨I.fl, ?_, ?_, ?_, ?_, ?_, ?_, ?_, Nat.le_refl _, ?_, I.len⟩
      · show g.kept.drop (far f ans - g.passed) = (strm wr g.fin).drop (g.passed + (far f ans - g.passed))
        rw [I.kept, List.drop_drop]
      · show g.passed + (far f ans - g.passed) ≤ slen wr g.fin
        omega
      · show ans = moved f (g.passed + (far f ans - g.passed))
        rw [show g.passed + (far f ans - g.passed) = far f ans by omega, moved_far I.fl ha]
      · show g.sent - (far f ans - g.passed) ≤ (g.kept.drop (far f ans - g.passed)).length
        rw [List.length_drop]
        omega
      · intro h
        have h : g.passed + (far f ans - g.passed) = 0 := h
        omega
      · show 32 ≤ (if 0 < far f ans - g.passed then min 512 (g.pace + 32) else g.pace) ∧ (if 0 < far f ans - g.passed then min 512 (g.pace + 32) else g.pace) ≤ 512
        have := I.pace
        split <;> omega
      · show 4 ≤ (if 0 < far f ans - g.passed then 4 else g.wait) ∧ (if 0 < far f ans - g.passed then 4 else g.wait) ≤ 64
        have := I.wait
        split <;> omega
      · intro h
        have := I.room h
        have := full_drop g.kept (far f ans - g.passed)
        show full (g.kept.drop (far f ans - g.passed)) ≤ 512
        omega
    · intro s h
      have h : (if 0 < far f ans - g.passed then none else g.since) = some s := h
      split at h
      · cases h
      · exact I.since s h
    · intro h
      exact absurd h (Nat.lt_irrefl 0)
    · show 4 ≤ (if 0 < far f ans - g.passed then 4 else g.wait)
      have := I.wait
      split <;> omega
  · rw [I.heard_no ha h2 (by omega)]
    exact { I with gnow := Nat.le_refl _ }
theorem GInv.heard_passed (I : GInv f wr now g) {ans room : Nat} (ha : ans < 4294967296) (h2 : far f ans ≤ g.passed + g.sent) :
    (g.heard ans room now).passed = max g.passed (far f ans) ∧ (g.heard ans room now).passed + (g.heard ans room now).sent = g.passed + g.sent ∧ (g.heard ans room now).fin = g.fin := by
  by_cases c : g.passed ≤ far f ans
  · rw [I.heard_yes ha h2 c]
    obtain ⟨_, _, _, e4, _, _, _, e8, e9, _⟩ := (g.got ans (far f ans - g.passed) room now).count_fields now
    rw [e4, e8, e9]
    refine ⟨?_, ?_, rfl⟩
    · show g.passed + (far f ans - g.passed) = _
      omega
    · show g.passed + (far f ans - g.passed) + (g.sent - (far f ans - g.passed)) = _
      omega
  · rw [I.heard_no ha h2 (by omega)]
    exact ⟨by show g.passed = _; omega, rfl, rfl⟩
/-! ### what is due -/
theorem Gv.again_fields (g : Gv) (t : Nat) : (g.again t).base = g.base ∧ (g.again t).kept = g.kept ∧ (g.again t).sent = g.sent ∧ (g.again t).reach = g.reach ∧ (g.again t).passed = g.passed ∧ (g.again t).fin = g.fin ∧ (g.again t).now = g.now := by
  unfold Gv.again
  split <;> exact ⟨rfl, rfl, rfl, rfl, rfl, rfl, rfl⟩
theorem Gv.isAgain_true {g : Gv} {t : Nat} (h : g.isAgain t = true) : ∃ s, g.since = some s ∧ s + g.wait ≤ t := by
  unfold Gv.isAgain at h
  cases e : g.since with
  | none => rw [e] at h; cases h
  | some s => rw [e] at h; exact ⟨s, rfl, of_decide_eq_true h⟩
theorem GInv.again (I : GInv f wr now g) (hc : g.since ≠ none → g.counted = true) : GInv f wr now (g.again now) := by
  unfold Gv.again
  by_cases h : g.isAgain now = true
  · rw [if_pos h]
    obtain ⟨s, e, hs⟩ := Gv.isAgain_true h
    have hw := I.wait
    have hwm := I.wm
    have hn := wmin_next g.tried
    have ht := tau_next g.tried
    refine ⟨{ I.toGBase with pace := ⟨Nat.le_refl 32, by show 32 ≤ 512; omega⟩, wait := ?_ }, fun u q => ?_, fun _ => ⟨hc (by rw [e]; simp), now, rfl, ?_⟩, ?_, fun _ => by simp⟩
    · show 4 ≤ min (2 * g.wait) 64 ∧ min (2 * g.wait) 64 ≤ 64
      omega
    · have q : some now = some u := q
      cases q
      exact Nat.le_refl _
    · show tau (g.tried + 1) ≤ now
      rw [ht]
      by_cases h0 : 0 < g.tried
      · obtain ⟨_, u, e2, h2⟩ := I.tried h0
        rw [e] at e2
        cases e2
        omega
      · have e0 : g.tried = 0 := by omega
        rw [e0] at hwm ⊢
        show 0 + 4 ≤ now
        have : wmin 0 = 4 := rfl
        omega
    · show wmin (g.tried + 1) ≤ min (2 * g.wait) 64
      omega
  · rw [if_neg h]
    exact I
theorem Gv.count_hc (g : Gv) (t : Nat) : (g.count t).since ≠ none → (g.count t).counted = true := by
  intro h
  rw [g.count_since] at h
  rw [g.count_counted]
  by_cases c : g.counted = true
  · exact c
  · rw [if_neg c] at h
    exact absurd rfl h
theorem GInv.tick0 (I : GInv f wr now g) : GInv f wr now (({ g with now := now } : Gv).count now) :=
  GBase.count (g := { g with now := now }) { I.toGBase with gnow := Nat.le_refl _ } I.since I.tried I.wm
theorem GInv.due1 (I : GInv f wr now g) : GInv f wr now (g.due1 now) := GInv.again I.tick0 (Gv.count_hc _ _)
theorem GInv.fill (I : GInv f wr now g) : GInv f wr now (g.fill now) := by
  have hs := I.sent
  have hl : g.last ≤ g.kept.length := by unfold Gv.last; omega
  have hr : g.last ≤ g.reach := by unfold Gv.last; omega
  refine GBase.count (g := { g with sent := max g.sent g.last }) { I.toGBase with sent := ?_, zero := fun h => ?_ } I.since (fun h => ?_) I.wm
  · show max g.sent g.last ≤ g.kept.length
    omega
  · have z := I.zero h
    refine ⟨z.1, ?_⟩
    show max g.sent g.last ≤ 1
    omega
  · obtain ⟨c, s, e, h2⟩ := I.tried h
    refine ⟨counted_kept c ?_ (Nat.le_refl _) rfl, s, e, h2⟩
    show g.sent ≤ max g.sent g.last
    omega
theorem GInv.due (I : GInv f wr now g) : GInv f wr now (g.due now) := I.due1.fill
theorem Gv.due1_fields (g : Gv) (t : Nat) : (g.due1 t).base = g.base ∧ (g.due1 t).kept = g.kept ∧ (g.due1 t).sent = g.sent ∧ (g.due1 t).reach = g.reach ∧ (g.due1 t).passed = g.passed ∧ (g.due1 t).fin = g.fin := by
  obtain ⟨a1, a2, a3, a4, a5, a6, _⟩ := (({ g with now := t } : Gv).count t).again_fields t
  obtain ⟨b1, b2, b3, b4, b5, b6, b7, b8, b9, b10⟩ := ({ g with now := t } : Gv).count_fields t
  unfold Gv.due1
  exact ⟨by rw [a1, b1], by rw [a2, b3], by rw [a3, b4], by rw [a4, b5], by rw [a5, b8], by rw [a6, b9]⟩
theorem Gv.due_fields (g : Gv) (t : Nat) : (g.due t).base = g.base ∧ (g.due t).kept = g.kept ∧ (g.due t).sent = max g.sent (g.due1 t).last ∧ (g.due t).reach = g.reach ∧ (g.due t).passed = g.passed ∧ (g.due t).fin = g.fin := by
  obtain ⟨a1, a2, a3, a4, a5, a6⟩ := g.due1_fields t
  obtain ⟨b1, b2, b3, b4, b5, b6, b7, b8, b9, b10⟩ := ({ g.due1 t with sent := max (g.due1 t).sent (g.due1 t).last } : Gv).count_fields t
  unfold Gv.due Gv.fill
  exact ⟨by rw [b1, a1], by rw [b3, a2], by rw [b4, ← a3], by rw [b5, a4], by rw [b8, a5], by rw [b9, a6]⟩
/-- a pair that is told: so many items from the n-th kept one on -/
def PairOk (g : Gv) (hi : Nat) (p : Nat × List It) : Prop := ∃ n m, p.1 = moved g.base n ∧ p.2 = (g.kept.drop n).take m ∧ n + p.2.length ≤ hi ∧ p.2.length ≤ 32
theorem chunks_ok (base : Nat) (kept : List It) (hi : Nat) (hhi : hi ≤ kept.length) : ∀ (k sent : Nat), hi - sent ≤ k → ∀ p ∈ chunks base kept sent hi, ∃ n m, sent ≤ n ∧ p.1 = moved base n ∧ p.2 = (kept.drop n).take m ∧ n + p.2.length ≤ hi ∧ p.2.length ≤ 32 ∧ p.2 ≠ []
  | 0, sent, hk, p, hp => by
    rw [chunks, dif_neg (by omega)] at hp
    cases hp
  | k + 1, sent, hk, p, hp => by
    rw [chunks] at hp
    by_cases c : sent < hi
    · rw [dif_pos c] at hp
      rcases List.mem_cons.mp hp with rfl | hp
      · have hl : ((kept.drop sent).take (min 32 (hi - sent))).length = min 32 (hi - sent) := by
          rw [List.length_take, List.length_drop]
          omega
        refine ⟨sent, min 32 (hi - sent), Nat.le_refl _, rfl, rfl, ?_, ?_, ?_⟩
        · show sent + ((kept.drop sent).take (min 32 (hi - sent))).length ≤ hi
          omega
        · show ((kept.drop sent).take (min 32 (hi - sent))).length ≤ 32
          omega
        · intro e
          have e : (kept.drop sent).take (min 32 (hi - sent)) = [] := e
          rw [e] at hl
          simp at hl
          omega
      · obtain ⟨n, m, h1, h2⟩ := chunks_ok base kept hi hhi k (sent + min 32 (hi - sent)) (by omega) p hp
        exact ⟨n, m, by omega, h2⟩
    · rw [dif_neg c] at hp
      cases hp
theorem chunks_length (base : Nat) (kept : List It) (hi : Nat) : ∀ (k sent : Nat), hi - sent ≤ 32 * k → (chunks base kept sent hi).length ≤ k
  | 0, sent, hk => by
    rw [chunks, dif_neg (by omega)]
    exact Nat.le_refl _
  | k + 1, sent, hk => by
    rw [chunks]
    by_cases c : sent < hi
    · rw [dif_pos c]
      have := chunks_length base kept hi k (sent + min 32 (hi - sent)) (by omega)
      show _ + 1 ≤ k + 1
      omega
    · rw [dif_neg c]
      exact Nat.zero_le _
theorem GInv.pairs (I : GInv f wr now g) : (∀ p ∈ g.duePairs now, PairOk g (g.due now).sent p) ∧ (g.duePairs now).length ≤ 17 := by
  obtain ⟨a1, a2, a3, a4, a5, a6⟩ := g.due1_fields now
  obtain ⟨b1, b2, b3, b4, b5, b6⟩ := g.due_fields now
  obtain ⟨c1, c2, c3, c4, _⟩ := ({ g with now := now } : Gv).count_fields now
  have hl : (g.due1 now).last ≤ g.kept.length := by unfold Gv.last; rw [a2]; omega
  have hp : (g.due1 now).last ≤ 512 := by have := I.due1.pace; unfold Gv.last; omega
  have hs := I.sent
  unfold Gv.duePairs
  rw [a1, a2, a3]
  constructor
  · intro p hp
    rw [b3]
    rcases List.mem_append.mp hp with hp | hp
    · unfold Gv.againPairs at hp
      split at hp
      · have hp := List.mem_singleton.mp hp
        subst hp
        rw [c1, c3, c4]
        refine ⟨0, min 32 g.sent, ?_, rfl, ?_, ?_⟩
        · show g.base = moved g.base 0
          rw [moved_zero I.basel]
        · show 0 + (g.kept.take (min 32 g.sent)).length ≤ _
          rw [List.length_take]
          omega
        · show (g.kept.take (min 32 g.sent)).length ≤ 32
          rw [List.length_take]
          omega
      · cases hp
    · obtain ⟨n, m, _, h1, h2, h3, h4, _⟩ := chunks_ok g.base g.kept _ hl _ g.sent (Nat.le_refl _) p hp
      exact ⟨n, m, h1, h2, by omega, h4⟩
  · have h1 := chunks_length g.base g.kept (g.due1 now).last 16 g.sent (by omega)
    have h2 : ((({ g with now := now } : Gv).count now).againPairs now).length ≤ 1 := by
      unfold Gv.againPairs
      split
      · exact Nat.le_refl _
      · exact Nat.zero_le _
    rw [List.length_append]
    omega
end
end SW
end
section
/-! The taker's invariant. -/
namespace SW
/-- f: the other's first number, wr, fin: what it wrote, hi: how many items it sent; has: what was read -/
structure TInv (f : Nat) (wr : List Nat) (fin : Bool) (hi : Nat) (has : List Nat) (t : Tk) : Prop where
  fl : f < 4294967296
  wl : t.wanted < 4294967296
  hile : hi ≤ slen wr fin
  len : wr.length ≤ 5000
  w1 : 1 ≤ far f t.wanted
  wh : far f t.wanted ≤ hi
  over : t.over = true ↔ (fin = true ∧ far f t.wanted = wr.length + 2)
  got : has ++ t.unread = wr.take (far f t.wanted - 1)
  room : t.unread.length ≤ 128
  ahead : ∀ p ∈ t.ahead, p.1 < 4294967296 ∧ far f t.wanted ≤ far f p.1 ∧ far f p.1 < far f t.wanted + (128 - t.unread.length) ∧ far f p.1 < hi ∧ (strm wr fin)[far f p.1]? = some p.2
  nd : (t.ahead.map (·.1)).Nodup
  void : t.over = true → t.ahead = []

theorem aget_mem {l : List (Nat × It)} {k : Nat} {it : It} (h : aget l k = some it) : (k, it) ∈ l := by
  unfold aget at h
  cases e : l.find? fun p => decide (p.1 = k) with
  | none => rw [e] at h; cases h
  | some p =>
    rw [e] at h
    have h1 : p.2 = it := Option.some.inj h
    have h2 : p.1 = k := by simpa using List.find?_some e
    have h3 := List.mem_of_find?_eq_some e
    rw [← h1, ← h2]
    exact h3
theorem aget_none {l : List (Nat × It)} {k : Nat} (h : aget l k = none) : ∀ p ∈ l, p.1 ≠ k := by
  intro p hp e
  unfold aget at h
  have h1 := Option.map_eq_none_iff.mp h
  have h2 := List.find?_eq_none.mp h1 p hp
  exact h2 (decide_eq_true e)
theorem aget_some_of {l : List (Nat × It)} {k : Nat} {it : It} (h : (k, it) ∈ l) : ∃ j, aget l k = some j := by
  cases e : aget l k with
  | none => exact absurd rfl (aget_none e _ h)
  | some j => exact ⟨j, rfl⟩
theorem adrop_mem {l : List (Nat × It)} {k : Nat} {p : Nat × It} (h : p ∈ adrop l k) : p ∈ l ∧ p.1 ≠ k := by
  obtain ⟨h1, h2⟩ := List.mem_filter.mp h
  exact ⟨h1, of_decide_eq_true h2⟩
theorem adrop_length {l : List (Nat × It)} {k : Nat} {it : It} (h : (k, it) ∈ l) : (adrop l k).length < l.length := by
  unfold adrop
  refine Nat.lt_of_le_of_ne (List.length_filter_le _ _) fun e => ?_
  have h1 := List.length_filter_eq_length_iff.mp e _ h
  simp at h1

section
variable {f : Nat} {wr : List Nat} {fin : Bool} {hi : Nat} {has : List Nat} {t : Tk}
theorem TInv.hib (I : TInv f wr fin hi has t) : hi ≤ 5002 := by
  have := I.hile
  have := slen_le wr fin
  have := I.len
  omega
theorem TInv.wlt (I : TInv f wr fin hi has t) : far f t.wanted ≤ 5002 := Nat.le_trans I.wh I.hib
/-- what holds of what lies ahead -/
def Lain (f : Nat) (wr : List Nat) (fin : Bool) (hi w u : Nat) (a : List (Nat × It)) : Prop :=
  (∀ p ∈ a, p.1 < 4294967296 ∧ w ≤ far f p.1 ∧ far f p.1 < w + (128 - u) ∧ far f p.1 < hi ∧ (strm wr fin)[far f p.1]? = some p.2) ∧ (a.map (·.1)).Nodup
theorem lay_cons (w fr num n : Nat) (it : It) (r : List It) (a : List (Nat × It)) : lay w fr num n (it :: r) a = lay w fr num (n + 1) r (layOne w fr (moved num n) it a) := rfl
theorem layOne_pos {w fr k : Nat} {it : It} {a : List (Nat × It)} (c : far w k < fr ∧ aget a k = none) : layOne w fr k it a = a ++ [(k, it)] := by
  unfold layOne
  rw [if_pos c]
theorem layOne_neg {w fr k : Nat} {it : It} {a : List (Nat × It)} (c : ¬ (far w k < fr ∧ aget a k = none)) : layOne w fr k it a = a := by
  unfold layOne
  rw [if_neg c]
theorem Lain.add {a : List (Nat × It)} {w u k : Nat} {it : It} (h : Lain f wr fin hi w u a) (hn : aget a k = none) (h1 : k < 4294967296) (h2 : w ≤ far f k) (h3 : far f k < w + (128 - u)) (h4 : far f k < hi) (h5 : (strm wr fin)[far f k]? = some it) : Lain f wr fin hi w u (a ++ [(k, it)]) := by
  constructor
  · intro p hp
    rcases List.mem_append.mp hp with hp | hp
    · exact h.1 p hp
    · rw [List.mem_singleton.mp hp]
      exact ⟨h1, h2, h3, h4, h5⟩
  · rw [List.map_append, List.nodup_append]
    refine ⟨h.2, by simp, fun x hx y hy => ?_⟩
    have hy : y = k := by simpa using hy
    rw [hy]
    obtain ⟨p, hp, rfl⟩ := List.mem_map.mp hx
    exact aget_none hn p hp
/-- items are laid ahead -/
theorem TInv.lay (I : TInv f wr fin hi has t) (num i : Nat) (hnum : num = moved f i) (items : List It) : ∀ (n : Nat) (a : List (Nat × It)),
    items = ((strm wr fin).drop (i + n)).take items.length → i + n + items.length ≤ hi →
    Lain f wr fin hi (far f t.wanted) t.unread.length a → Lain f wr fin hi (far f t.wanted) t.unread.length (lay t.wanted t.free num n items a) := by
  induction items with
  | nil => intro n a _ _ h; exact h
  | cons it r ih =>
    intro n a hs hl h
    have hib := I.hib
    have hw := I.wlt
    rw [List.length_cons] at hs hl
    have hk : i + n < 4294967296 := by omega
    have e1 : moved num n = moved f (i + n) := by rw [hnum, moved_moved]
    have e2 : far f (moved num n) = i + n := by rw [e1, far_moved I.fl hk]
    have hit : (strm wr fin)[i + n]? = some it := by
      have h0 : (it :: r)[0]? = (((strm wr fin).drop (i + n)).take (r.length + 1))[0]? := congrArg (fun l : List It => l[0]?) hs
      rw [List.getElem?_take, if_pos (by omega), List.getElem?_drop] at h0
      simpa using h0.symm
    have hr : r = ((strm wr fin).drop (i + (n + 1))).take r.length := by
      have h0 : (it :: r).drop 1 = (((strm wr fin).drop (i + n)).take (r.length + 1)).drop 1 := congrArg (fun l : List It => l.drop 1) hs
      rw [List.drop_take, List.drop_drop, Nat.add_sub_cancel] at h0
      rw [show i + (n + 1) = i + n + 1 by omega]
      simpa using h0
    rw [lay_cons]
    refine ih (n + 1) _ hr (by omega) ?_
    by_cases c : far t.wanted (moved num n) < t.free ∧ aget a (moved num n) = none
    · rw [layOne_pos c]
      have hfree : t.free = 128 - t.unread.length := rfl
      have hlow : far f t.wanted ≤ i + n := by
        by_cases q : far f t.wanted ≤ i + n
        · exact q
        · exfalso
          have h3 := far_down I.fl I.wl (moved_lt num n) (by rw [e2]; omega)
          rw [e2] at h3
          have h4 := c.1
          rw [h3, hfree] at h4
          omega
      have h3 := far_up I.fl I.wl (moved_lt num n) (by rw [e2]; exact hlow)
      rw [e2] at h3
      have h4 := c.1
      refine h.add c.2 (moved_lt _ _) ?_ ?_ ?_ ?_
      · rw [e2]; exact hlow
      · rw [e2]; omega
      · rw [e2]; omega
      · rw [e2]; exact hit
    · rw [layOne_neg c]
      exact h
theorem TInv.laid (I : TInv f wr fin hi has t) (num i : Nat) (hnum : num = moved f i) (items : List It) (hs : items = ((strm wr fin).drop i).take items.length) (hl : i + items.length ≤ hi) (ho : t.over = false) : TInv f wr fin hi has (t.laid num items) := by
  obtain ⟨h1, h2⟩ : Lain f wr fin hi (far f t.wanted) t.unread.length (SW.lay t.wanted t.free num 0 items t.ahead) := TInv.lay I num i hnum items 0 t.ahead hs hl ⟨I.ahead, I.nd⟩
  exact ⟨I.fl, I.wl, I.hile, I.len, I.w1, I.wh, I.over, I.got, I.room, h1, h2, fun h => by rw [show (t.laid num items).over = t.over from rfl, ho] at h; cases h⟩
/-- the item wanted next comes ready -/
theorem TInv.come (I : TInv f wr fin hi has t) (ho : t.over = false) {it : It} (h : aget t.ahead t.wanted = some it) :
    TInv f wr fin hi has (({ t with ahead := adrop t.ahead t.wanted } : Tk).come it) ∧ far f (({ t with ahead := adrop t.ahead t.wanted } : Tk).come it).wanted = far f t.wanted + 1 := by
  obtain ⟨_, _, k1, k2, k3⟩ := I.ahead _ (aget_mem h)
  simp only at k1 k2 k3
  have hib := I.hib
  have hw := I.wlt
  have e1 : far f (moved t.wanted 1) = far f t.wanted + 1 := far_next I.fl I.wl (by omega)
  have hle := I.hile
  have w1 := I.w1
  have hd : ∀ p ∈ adrop t.ahead t.wanted, p ∈ t.ahead ∧ far f p.1 ≠ far f t.wanted := fun p hp => by
    obtain ⟨h1, h2⟩ := adrop_mem hp
    exact ⟨h1, fun e => h2 (far_inj I.fl (I.ahead p h1).1 I.wl e)⟩
  have hnd : ((adrop t.ahead t.wanted).map (·.1)).Nodup := List.Sublist.nodup (List.Sublist.map _ List.filter_sublist) I.nd
  cases it with
  | o => exact absurd (strm_o k3) (by omega)
  | e =>
    obtain ⟨hf, hn⟩ := strm_e k3
    refine ⟨⟨I.fl, moved_lt _ _, I.hile, I.len, ?_, ?_, ?_, ?_, I.room, fun p hp => (List.not_mem_nil hp).elim, List.nodup_nil, fun _ => rfl⟩, e1⟩
    · show 1 ≤ far f (moved t.wanted 1); omega
    · show far f (moved t.wanted 1) ≤ hi; omega
    · show true = true ↔ (fin = true ∧ far f (moved t.wanted 1) = wr.length + 2)
      rw [e1]
      exact ⟨fun _ => ⟨hf, by omega⟩, fun _ => rfl⟩
    · show has ++ t.unread = wr.take (far f (moved t.wanted 1) - 1)
      rw [I.got, e1, hn, List.take_of_length_le (by omega), List.take_of_length_le (by omega)]
  | b n =>
    obtain ⟨h1, h2⟩ := strm_b k3
    have hlt : far f t.wanted - 1 < wr.length := (List.getElem?_eq_some_iff.mp h2).1
    refine ⟨⟨I.fl, moved_lt _ _, I.hile, I.len, ?_, ?_, ?_, ?_, ?_, fun p hp => ?_, hnd, fun h => ?_⟩, e1⟩
    · show 1 ≤ far f (moved t.wanted 1); omega
    · show far f (moved t.wanted 1) ≤ hi; omega
    · show t.over = true ↔ (fin = true ∧ far f (moved t.wanted 1) = wr.length + 2)
      rw [e1, ho]
      exact ⟨fun h => (by cases h), fun h => by omega⟩
    · show has ++ (t.unread ++ [n]) = wr.take (far f (moved t.wanted 1) - 1)
      rw [e1, ← List.append_assoc, I.got, show far f t.wanted + 1 - 1 = (far f t.wanted - 1) + 1 by omega, List.take_add_one, h2]
      rfl
    · show (t.unread ++ [n]).length ≤ 128
      rw [List.length_append]
      show t.unread.length + 1 ≤ 128
      omega
    · obtain ⟨hp1, hp2⟩ := hd p hp
      obtain ⟨q0, q1, q2, q3, q4⟩ := I.ahead p hp1
      refine ⟨q0, ?_, ?_, q3, q4⟩
      · show far f (moved t.wanted 1) ≤ _; omega
      · show _ < far f (moved t.wanted 1) + (128 - (t.unread ++ [n]).length)
        rw [List.length_append, e1]
        show _ < _ + (128 - (t.unread.length + 1))
        omega
    · rw [show (({ t with ahead := adrop t.ahead t.wanted } : Tk).come (.b n)).over = t.over from rfl, ho] at h
      cases h
theorem run_over (k : Nat) (ho : t.over = true) : t.run (k + 1) = t := by
  show (if t.over = true then t else _) = t
  rw [if_pos ho]
theorem run_none (k : Nat) (ho : t.over = false) (e : aget t.ahead t.wanted = none) : t.run (k + 1) = t := by
  show (if t.over = true then t else _) = t
  rw [if_neg (by rw [ho]; decide), e]
theorem run_some (k : Nat) {it : It} (ho : t.over = false) (e : aget t.ahead t.wanted = some it) : t.run (k + 1) = (({ t with ahead := adrop t.ahead t.wanted } : Tk).come it).run k := by
  show (if t.over = true then t else _) = _
  rw [if_neg (by rw [ho]; decide), e]
theorem TInv.run : ∀ (k : Nat) {t : Tk}, TInv f wr fin hi has t → TInv f wr fin hi has (t.run k) ∧ far f t.wanted ≤ far f (t.run k).wanted
  | 0, t, I => ⟨I, Nat.le_refl _⟩
  | k + 1, t, I => by
    by_cases ho : t.over = true
    · rw [run_over k ho]; exact ⟨I, Nat.le_refl _⟩
    · have ho : t.over = false := by simpa using ho
      cases e : aget t.ahead t.wanted with
      | none => rw [run_none k ho e]; exact ⟨I, Nat.le_refl _⟩
      | some it =>
        rw [run_some k ho e]
        obtain ⟨h1, h2⟩ := I.come ho e
        obtain ⟨h3, h4⟩ := TInv.run k h1
        exact ⟨h3, by omega⟩
/-- so many items from the i-th on are taken -/
theorem TInv.take (I : TInv f wr fin hi has t) (num i : Nat) (hnum : num = moved f i) (items : List It) (hs : items = ((strm wr fin).drop i).take items.length) (hl : i + items.length ≤ hi) :
    TInv f wr fin hi has (t.take num items) ∧ far f t.wanted ≤ far f (t.take num items).wanted := by
  unfold Tk.take
  cases ho : t.over with
  | true => rw [if_pos rfl]; exact ⟨I, Nat.le_refl _⟩
  | false =>
    rw [if_neg Bool.false_ne_true]
    obtain ⟨h1, h2⟩ := TInv.run (t.laid num items).ahead.length (I.laid num i hnum items hs hl ho)
    exact ⟨h1, h2⟩
/-- with a leading o or without -/
theorem TInv.takes (I : TInv f wr fin hi has t) (num : Nat) (hnum : num < 4294967296) (items : List It) (hs : items = ((strm wr fin).drop (far f num)).take items.length) (hl : far f num + items.length ≤ hi) :
    TInv f wr fin hi has (t.takes num items) ∧ far f t.wanted ≤ far f (t.takes num items).wanted := by
  have e := (moved_far I.fl hnum).symm
  match items, hs, hl with
  | .o :: r, hs, hl =>
    have hr : r = ((strm wr fin).drop (far f num + 1)).take r.length := by
      have h0 : (It.o :: r).drop 1 = (((strm wr fin).drop (far f num)).take (It.o :: r).length).drop 1 := congrArg (fun l : List It => l.drop 1) hs
      rw [List.drop_take, List.drop_drop] at h0
      exact h0
    refine I.take (moved num 1) (far f num + 1) ?_ r hr ?_
    · conv => lhs; rw [e, moved_moved]
    · have : (It.o :: r).length = r.length + 1 := rfl
      omega
  | [], hs, hl => exact I.take num (far f num) e [] hs hl
  | .e :: r, hs, hl => exact I.take num (far f num) e (.e :: r) hs hl
  | .b n :: r, hs, hl => exact I.take num (far f num) e (.b n :: r) hs hl
/-- the other end wrote, finished, sent more -/
theorem TInv.grow (I : TInv f wr fin hi has t) {d : List Nat} (hd : wr.length + d.length ≤ 5000) (hf : fin = false) : TInv f (wr ++ d) fin hi has t := by
  subst hf
  have hle := I.hile
  have h2 : slen (wr ++ d) false = slen wr false + d.length := by unfold slen; rw [List.length_append]; simp; omega
  have hsl : slen wr false = wr.length + 1 := by unfold slen; simp
  have hwh := I.wh
  refine ⟨I.fl, I.wl, by omega, by rw [List.length_append]; exact hd, I.w1, I.wh, ?_, ?_, I.room, fun p hp => ?_, I.nd, I.void⟩
  · rw [I.over]
    constructor <;> rintro ⟨h, _⟩ <;> cases h
  · rw [I.got, List.take_append_of_le_length (by omega)]
  · obtain ⟨q0, q1, q2, q3, q4⟩ := I.ahead p hp
    refine ⟨q0, q1, q2, q3, ?_⟩
    rw [strm_write, List.getElem?_append_left (by rw [strm_len]; omega)]
    exact q4
theorem TInv.ended (I : TInv f wr fin hi has t) : TInv f wr true hi has t := by
  cases fin with
  | true => exact I
  | false =>
    have hle := I.hile
    have hsl : slen wr false = wr.length + 1 := by unfold slen; simp
    have hsl2 : slen wr true = wr.length + 2 := by unfold slen; simp
    have hwh := I.wh
    refine ⟨I.fl, I.wl, by omega, I.len, I.w1, I.wh, ?_, I.got, I.room, fun p hp => ?_, I.nd, I.void⟩
    · rw [I.over]
      constructor
      · rintro ⟨h, _⟩; cases h
      · rintro ⟨_, h⟩; omega
    · obtain ⟨q0, q1, q2, q3, q4⟩ := I.ahead p hp
      refine ⟨q0, q1, q2, q3, ?_⟩
      rw [strm_finish, List.getElem?_append_left (by rw [strm_len]; omega)]
      exact q4
theorem TInv.more (I : TInv f wr fin hi has t) {hi' : Nat} (h : hi ≤ hi') (h2 : hi' ≤ slen wr fin) : TInv f wr fin hi' has t := by
  refine ⟨I.fl, I.wl, h2, I.len, I.w1, Nat.le_trans I.wh h, I.over, I.got, I.room, fun p hp => ?_, I.nd, I.void⟩
  obtain ⟨q0, q1, q2, q3, q4⟩ := I.ahead p hp
  exact ⟨q0, q1, q2, Nat.lt_of_lt_of_le q3 h, q4⟩
theorem TInv.read (I : TInv f wr fin hi has t) (n : Nat) : TInv f wr fin hi (has ++ t.unread.take n) (t.read n) := by
  refine ⟨I.fl, I.wl, I.hile, I.len, I.w1, I.wh, I.over, ?_, ?_, fun p hp => ?_, I.nd, I.void⟩
  · show has ++ t.unread.take n ++ t.unread.drop n = _
    rw [List.append_assoc, List.take_append_drop]
    exact I.got
  · show (t.unread.drop n).length ≤ 128
    have := I.room
    rw [List.length_drop]
    omega
  · obtain ⟨q0, q1, q2, q3, q4⟩ := I.ahead p hp
    refine ⟨q0, q1, ?_, q3, q4⟩
    show _ < far f t.wanted + (128 - (t.unread.drop n).length)
    rw [List.length_drop]
    omega
theorem TInv.start {wr : List Nat} {fin : Bool} {hi : Nat} (hf : f < 4294967296) (hl : wr.length ≤ 5000) (h1 : 1 ≤ hi) (h2 : hi ≤ slen wr fin) : TInv f wr fin hi [] (.new (moved f 1)) := by
  have e : far f (moved f 1) = 1 := far_moved hf (by omega)
  refine ⟨hf, moved_lt _ _, h2, hl, ?_, ?_, ?_, ?_, Nat.zero_le _, fun p hp => (List.not_mem_nil hp).elim, List.nodup_nil, fun h => by cases h⟩
  · show 1 ≤ far f (moved f 1); omega
  · show far f (moved f 1) ≤ hi; omega
  · show false = true ↔ (fin = true ∧ far f (moved f 1) = wr.length + 2)
    rw [e]
    exact ⟨fun h => (by cases h), fun h => by omega⟩
  · show [] ++ [] = wr.take (far f (moved f 1) - 1)
    rw [e]
    rfl
/-! ### how far, and how much is unread -/
theorem TInv.come_grow (I : TInv f wr fin hi has t) (ho : t.over = false) {it : It} (h : aget t.ahead t.wanted = some it) : (({ t with ahead := adrop t.ahead t.wanted } : Tk).come it).unread.length ≤ t.unread.length + 1 := by
  cases it with
  | o => exact Nat.le_succ _
  | e => exact Nat.le_succ _
  | b n =>
    show (t.unread ++ [n]).length ≤ _
    rw [List.length_append]
    exact Nat.le_refl _
theorem TInv.run_grow : ∀ (k : Nat) {t : Tk}, TInv f wr fin hi has t → (t.run k).unread.length + far f t.wanted ≤ t.unread.length + far f (t.run k).wanted
  | 0, t, I => Nat.le_refl _
  | k + 1, t, I => by
    by_cases ho : t.over = true
    · rw [run_over k ho]; exact Nat.le_refl _
    · have ho : t.over = false := by simpa using ho
      cases e : aget t.ahead t.wanted with
      | none => rw [run_none k ho e]; exact Nat.le_refl _
      | some it =>
        rw [run_some k ho e]
        obtain ⟨h1, h2⟩ := I.come ho e
        have h3 := TInv.run_grow k h1
        have h4 := I.come_grow ho e
        omega
theorem TInv.take_grow (I : TInv f wr fin hi has t) (num i : Nat) (hnum : num = moved f i) (items : List It) (hs : items = ((strm wr fin).drop i).take items.length) (hl : i + items.length ≤ hi) :
    (t.take num items).unread.length + far f t.wanted ≤ t.unread.length + far f (t.take num items).wanted := by
  unfold Tk.take
  cases ho : t.over with
  | true => rw [if_pos rfl]; exact Nat.le_refl _
  | false =>
    rw [if_neg Bool.false_ne_true]
    exact TInv.run_grow (t.laid num items).ahead.length (I.laid num i hnum items hs hl ho)
theorem tail_slice {l : List It} {a : Nat} {it : It} {r : List It} (hs : it :: r = (l.drop a).take (it :: r).length) : r = (l.drop (a + 1)).take r.length := by
  have h0 : (it :: r).drop 1 = ((l.drop a).take (it :: r).length).drop 1 := congrArg (fun l : List It => l.drop 1) hs
  rw [List.drop_take, List.drop_drop, List.length_cons, Nat.add_sub_cancel] at h0
  simpa using h0
theorem TInv.takes_grow (I : TInv f wr fin hi has t) (num : Nat) (hnum : num < 4294967296) (items : List It) (hs : items = ((strm wr fin).drop (far f num)).take items.length) (hl : far f num + items.length ≤ hi) :
    (t.takes num items).unread.length + far f t.wanted ≤ t.unread.length + far f (t.takes num items).wanted := by
  have e := (moved_far I.fl hnum).symm
  match items, hs, hl with
  | .o :: r, hs, hl =>
    refine I.take_grow (moved num 1) (far f num + 1) ?_ r (tail_slice hs) ?_
    · conv => lhs; rw [e, moved_moved]
    · rw [List.length_cons] at hl
      omega
  | [], hs, hl => exact I.take_grow num (far f num) e [] hs hl
  | .e :: r, hs, hl => exact I.take_grow num (far f num) e (.e :: r) hs hl
  | .b n :: r, hs, hl => exact I.take_grow num (far f num) e (.b n :: r) hs hl
theorem aget_app {l m : List (Nat × It)} {k : Nat} {it : It} (h : aget l k = some it) : aget (l ++ m) k = some it := by
  unfold aget at *
  rw [List.find?_append]
  cases e : l.find? fun p => decide (p.1 = k) with
  | none => rw [e] at h; cases h
  | some p => rw [e] at h; exact h
theorem aget_here (l : List (Nat × It)) (k : Nat) (it : It) : ∃ j, aget (l ++ [(k, it)]) k = some j := aget_some_of (List.mem_append_right _ (List.mem_singleton.mpr rfl))
theorem lay_aget {w fr num k : Nat} (items : List It) : ∀ (n : Nat) (a : List (Nat × It)), (∃ j, aget a k = some j) → ∃ j, aget (lay w fr num n items a) k = some j := by
  induction items with
  | nil => intro n a h; exact h
  | cons it r ih =>
    intro n a h
    rw [lay_cons]
    refine ih (n + 1) _ ?_
    obtain ⟨j, h⟩ := h
    unfold layOne
    split
    · exact ⟨j, aget_app h⟩
    · exact ⟨j, h⟩
/-- what begins at the item wanted next brings it -/
theorem TInv.take_key (I : TInv f wr fin hi has t) (it : It) (r : List It) (hs : it :: r = ((strm wr fin).drop (far f t.wanted)).take (it :: r).length) (hl : far f t.wanted + (it :: r).length ≤ hi) (ho : t.over = false) (hu : t.unread = []) :
    far f t.wanted < far f (t.take t.wanted (it :: r)).wanted := by
  unfold Tk.take
  rw [if_neg (by rw [ho]; decide)]
  have J := I.laid t.wanted (far f t.wanted) (moved_far I.fl I.wl).symm (it :: r) hs hl ho
  have e0 : moved t.wanted 0 = t.wanted := moved_zero I.wl
  have hz : far t.wanted t.wanted = 0 := far_self I.wl
  have hfree : t.free = 128 := by unfold Tk.free; rw [hu]; rfl
  have hk : ∃ j, aget (t.laid t.wanted (it :: r)).ahead t.wanted = some j := by
    show ∃ j, aget (SW.lay t.wanted t.free t.wanted 0 (it :: r) t.ahead) t.wanted = some j
    rw [lay_cons, e0]
    refine lay_aget r 1 _ ?_
    unfold layOne
    cases q : aget t.ahead t.wanted with
    | none =>
      rw [if_pos ⟨by rw [hz, hfree]; decide, rfl⟩]
      exact aget_here _ _ _
    | some j =>
      rw [if_neg (fun h => by cases h.2)]
      exact ⟨j, q⟩
  obtain ⟨j, hj⟩ := hk
  have hlen : ∃ m, (t.laid t.wanted (it :: r)).ahead.length = m + 1 := by
    have := List.length_pos_of_mem (aget_mem hj)
    exact ⟨(t.laid t.wanted (it :: r)).ahead.length - 1, by omega⟩
  obtain ⟨m, hm⟩ := hlen
  rw [hm, run_some (t := t.laid t.wanted (it :: r)) m ho hj]
  obtain ⟨c1, c2⟩ := J.come ho hj
  have c3 := (TInv.run m c1).2
  have c4 : far f (t.laid t.wanted (it :: r)).wanted = far f t.wanted := rfl
  omega
/-- what begins where all is answered brings something new, or it is there -/
theorem TInv.takes_key (I : TInv f wr fin hi has t) {p0 : Nat} (num : Nat) (hnum : num < 4294967296) (hp : far f num = p0) (items : List It) (hs : items = ((strm wr fin).drop (far f num)).take items.length) (hl : far f num + items.length ≤ hi) (hne : items ≠ [])
    (hu : t.unread.length + p0 ≤ far f t.wanted) : p0 < far f (t.takes num items).wanted := by
  obtain ⟨_, h2⟩ := I.takes num hnum items hs hl
  by_cases c : p0 < far f t.wanted
  · omega
  have hw : far f t.wanted = p0 := by omega
  have hu0 : t.unread = [] := List.eq_nil_of_length_eq_zero (by omega)
  have en : num = t.wanted := far_inj I.fl hnum I.wl (by rw [hp, hw])
  have hile := I.hile
  have hsl := slen_le wr fin
  have w1 := I.w1
  cases items with
  | nil => exact absurd rfl hne
  | cons it r =>
    have ho : t.over = false := by
      cases q : t.over with
      | false => rfl
      | true =>
        have q2 := (I.over.mp q).2
        rw [List.length_cons] at hl
        omega
    have h0 : it ≠ .o := fun e => by
      have h0 : (it :: r)[0]? = (((strm wr fin).drop (far f num)).take (it :: r).length)[0]? := congrArg (fun l : List It => l[0]?) hs
      rw [List.getElem?_take, if_pos (by rw [List.length_cons]; omega), List.getElem?_drop, e] at h0
      have h1 : (strm wr fin)[far f num + 0]? = some .o := by rw [← h0]; rfl
      have h2 := strm_o h1
      omega
    subst en
    rw [hp, ← hw] at hs hl
    have hk := I.take_key it r hs hl ho hu0
    rw [hw] at hk
    cases it with
    | o => exact absurd rfl h0
    | e => exact hk
    | b n => exact hk
end
end SW
end
section
/-! What holds of two ends and what lies between them. -/
namespace SW
structure SegOk (y : Bool) (fy : Nat) (wr : List Nat) (fin : Bool) (hi fx wy : Nat) (s : Sg) : Prop where
  num : s.number < 4294967296
  rm : s.room ≤ 128
  dl : s.data.length ≤ 200
  cc : s.c = true → s.a = false ∧ s.items = [] ∧ s.q = false
  it : s.c = false → far fy s.number + s.items.length ≤ hi ∧ s.items = ((strm wr fin).drop (far fy s.number)).take s.items.length
  an : s.a = true → s.answer < 4294967296 ∧ 1 ≤ far fx s.answer ∧ far fx s.answer ≤ wy
  na : s.a = false → s.c = false → y = false ∧ s.o = true ∧ s.data = [] ∧ s.e = false ∧ s.q = false
def Gv.hi (g : Gv) : Nat := g.passed + g.sent
noncomputable def wof (f : Nat) : Option Tk → Nat
  | none => 0
  | some t => far f t.wanted
structure Core (first : Bool → Nat) (wr has : Bool → List Nat) (road : Bool → List Sg) (now : Nat) (G : Bool → Gv) (K : Bool → Option Tk) : Prop where
  g : ∀ x, GInv (first x) (wr x) now (G x)
  t : ∀ x t, K x = some t → TInv (first !x) (wr !x) (G !x).fin (G !x).hi (has x) t
  k1 : K true ≠ none
  nt : ∀ x, K x = none → has x = [] ∧ (G x).passed = 0
  ans : ∀ x, (G x).passed ≤ wof (first x) (K !x)
  seg : ∀ x, ∀ s ∈ road x, SegOk (!x) (first !x) (wr !x) (G !x).fin (G !x).hi (first x) (wof (first x) (K !x)) s

theorem SegOk.mono {y : Bool} {fy : Nat} {wr : List Nat} {fin : Bool} {hi hi' fx wy wy' : Nat} {s : Sg} (h : SegOk y fy wr fin hi fx wy s) (h1 : hi ≤ hi') (h2 : wy ≤ wy') : SegOk y fy wr fin hi' fx wy' s :=
  ⟨h.num, h.rm, h.dl, h.cc, fun c => ⟨Nat.le_trans (h.it c).1 h1, (h.it c).2⟩, fun a => ⟨(h.an a).1, (h.an a).2.1, Nat.le_trans (h.an a).2.2 h2⟩, h.na⟩
/-- a longer stream -/
theorem SegOk.longer {y : Bool} {fy : Nat} {wr wr' : List Nat} {fin fin' : Bool} {hi fx wy : Nat} {s : Sg} (h : SegOk y fy wr fin hi fx wy s) (h1 : hi ≤ slen wr fin) (h2 : ∃ e, strm wr' fin' = strm wr fin ++ e) : SegOk y fy wr' fin' hi fx wy s := by
  refine ⟨h.num, h.rm, h.dl, h.cc, fun c => ⟨(h.it c).1, ?_⟩, h.an, h.na⟩
  obtain ⟨e, he⟩ := h2
  obtain ⟨i1, i2⟩ := h.it c
  rw [he, List.drop_append_of_le_length (by rw [strm_len]; omega), List.take_append_of_le_length (by rw [List.length_drop, strm_len]; omega)]
  exact i2
section
variable {first : Bool → Nat} {wr has : Bool → List Nat} {road : Bool → List Sg} {now : Nat} {G : Bool → Gv} {K : Bool → Option Tk}
theorem nn (x : Bool) : (!!x) = x := by cases x <;> rfl
theorem ne_not (x : Bool) : x ≠ !x := by cases x <;> decide
theorem eq_or_not (x y : Bool) : y = x ∨ y = !x := by cases x <;> cases y <;> decide
theorem Core.later (I : Core first wr has road now G K) {t : Nat} (h : now ≤ t) : Core first wr has road t G K :=
  ⟨fun x => (I.g x).later h, I.t, I.k1, I.nt, I.ans, I.seg⟩
theorem Core.fl (I : Core first wr has road now G K) (x : Bool) : first x < 4294967296 := (I.g x).fl
theorem Core.wle (I : Core first wr has road now G K) (x : Bool) : wof (first x) (K !x) ≤ (G x).hi := by
  cases e : K (!x) with
  | none => exact Nat.zero_le _
  | some t =>
    have h := (I.t (!x) t e).wh
    rw [nn] at h
    exact h
theorem Core.roads (I : Core first wr has road now G K) {road' : Bool → List Sg} (h : ∀ x, ∀ s ∈ road' x, s ∈ road x) : Core first wr has road' now G K :=
  ⟨I.g, I.t, I.k1, I.nt, I.ans, fun x s hs => I.seg x s (h x s hs)⟩
/-- end x tells some segments -/
theorem Core.send (I : Core first wr has road now G K) (x : Bool) (out : List Sg) (h : ∀ s ∈ out, SegOk x (first x) (wr x) (G x).fin (G x).hi (first !x) (wof (first !x) (K x)) s) :
    Core first wr has (put road (!x) (road (!x) ++ out)) now G K := by
  refine ⟨I.g, I.t, I.k1, I.nt, I.ans, fun y s hs => ?_⟩
  rcases eq_or_not x y with rfl | rfl
  · rw [put_not'] at hs
    exact I.seg y s hs
  · rw [put_same] at hs
    rcases List.mem_append.mp hs with hs | hs
    · exact I.seg (!x) s hs
    · have := h s hs
      rw [nn]
      exact this
/-- x's giver goes on -/
theorem Core.giver (I : Core first wr has road now G K) (x : Bool) {g' : Gv} (h : GInv (first x) (wr x) now g') (hf : g'.fin = (G x).fin) (hh : (G x).hi ≤ g'.hi) (hz : K x = none → g'.passed = 0) (ha : g'.passed ≤ wof (first x) (K !x)) :
    Core first wr has road now (put G x g') K := by
  refine ⟨fun y => ?_, fun y t e => ?_, I.k1, fun y e => ?_, fun y => ?_, fun y s hs => ?_⟩
  · rcases eq_or_not x y with rfl | rfl
    · rw [put_same]; exact h
    · rw [put_not]; exact I.g (!x)
  · rcases eq_or_not x y with rfl | rfl
    · rw [put_not]; exact I.t y t e
    · have q := I.t (!x) t e
      rw [nn] at q ⊢
      rw [put_same, hf]
      exact q.more hh (by rw [← hf]; exact h.hwle)
  · rcases eq_or_not x y with rfl | rfl
    · rw [put_same]; exact ⟨(I.nt y e).1, hz e⟩
    · rw [put_not]; exact I.nt (!x) e
  · rcases eq_or_not x y with rfl | rfl
    · rw [put_same]; exact ha
    · rw [put_not]; exact I.ans (!x)
  · rcases eq_or_not x y with rfl | rfl
    · rw [put_not]; exact I.seg y s hs
    · have q := I.seg (!x) s hs
      rw [nn] at q ⊢
      rw [put_same, hf]
      exact q.mono hh (Nat.le_refl _)
/-- x's taker goes on -/
theorem Core.taker (I : Core first wr has road now G K) (x : Bool) {t' : Tk} {has' : List Nat} (h : TInv (first !x) (wr !x) (G !x).fin (G !x).hi has' t') (hw : wof (first !x) (K x) ≤ far (first !x) t'.wanted) :
    Core first wr (put has x has') road now G (put K x (some t')) := by
  refine ⟨I.g, fun y t e => ?_, ?_, fun y e => ?_, fun y => ?_, fun y s hs => ?_⟩
  · rcases eq_or_not x y with rfl | rfl
    · rw [put_same] at e ⊢
      cases e
      exact h
    · rw [put_not] at e ⊢; exact I.t (!x) t e
  · rcases eq_or_not x true with hx | hx
    · rw [hx, put_same]; simp
    · rw [hx, put_not, ← hx]; exact I.k1
  · rcases eq_or_not x y with rfl | rfl
    · rw [put_same] at e; cases e
    · rw [put_not] at e ⊢; exact I.nt (!x) e
  · rcases eq_or_not x y with rfl | rfl
    · rw [put_not]; exact I.ans y
    · rw [nn, put_same]
      have := I.ans (!x)
      rw [nn] at this
      exact Nat.le_trans this hw
  · rcases eq_or_not x y with rfl | rfl
    · rw [put_not]; exact I.seg y s hs
    · have q := I.seg (!x) s hs
      rw [nn] at q ⊢
      rw [put_same]
      exact q.mono (Nat.le_refl _) hw
theorem Core.hib (I : Core first wr has road now G K) (x : Bool) : (G x).hi ≤ 5002 := by
  have := (I.g x).hwle
  have := slen_le (wr x) (G x).fin
  have := (I.g x).len
  unfold Gv.hi
  omega
/-- x writes -/
theorem Core.write (I : Core first wr has road now G K) (x : Bool) {d : List Nat} (hd : (wr x).length + d.length ≤ 5000) : Core first (put wr x (wr x ++ d.take ((G x).many d))) has road now (put G x ((G x).write d)) K := by
  have hfin : ((G x).write d).fin = (G x).fin := rfl
  have hhi : ((G x).write d).hi = (G x).hi := rfl
  have hn : (G x).fin = true → d.take ((G x).many d) = [] := fun h => by
    have e : (G x).many d = 0 := by unfold Gv.many; rw [if_pos h]
    rw [e]
    rfl
  have hs : ∃ e, strm (wr x ++ d.take ((G x).many d)) (G x).fin = strm (wr x) (G x).fin ++ e := by
    cases hf : (G x).fin with
    | true => exact ⟨[], by rw [hn hf]; simp⟩
    | false => exact ⟨_, strm_write _ _⟩
  have hl : (d.take ((G x).many d)).length ≤ d.length := by rw [List.length_take]; omega
  refine ⟨fun y => ?_, fun y t e => ?_, I.k1, fun y e => ?_, fun y => ?_, fun y s hs' => ?_⟩
  · rcases eq_or_not x y with rfl | rfl
    · rw [put_same, put_same]; exact (I.g y).write hd
    · rw [put_not, put_not]; exact I.g (!x)
  · rcases eq_or_not x y with rfl | rfl
    · rw [put_not, put_not]; exact I.t y t e
    · have q := I.t (!x) t e
      rw [nn] at q ⊢
      rw [put_same, put_same, hfin, hhi]
      cases hf : (G x).fin with
      | true => rw [hn hf, ← hf]; simpa using q
      | false => exact (hf ▸ q).grow (by omega) rfl
  · rcases eq_or_not x y with rfl | rfl
    · rw [put_same]; exact I.nt y e
    · rw [put_not]; exact I.nt (!x) e
  · rcases eq_or_not x y with rfl | rfl
    · rw [put_same]; exact I.ans y
    · rw [put_not]; exact I.ans (!x)
  · rcases eq_or_not x y with rfl | rfl
    · rw [put_not, put_not]; exact I.seg y s hs'
    · have q := I.seg (!x) s hs'
      rw [nn] at q ⊢
      rw [put_same, put_same, hfin, hhi]
      exact q.longer (I.g x).hwle hs
/-- x finishes -/
theorem Core.finish (I : Core first wr has road now G K) (x : Bool) : Core first wr has road now (put G x (G x).finish) K := by
  have hfin : (G x).finish.fin = true := rfl
  have hhi : (G x).finish.hi = (G x).hi := rfl
  have hs : ∃ e, strm (wr x) true = strm (wr x) (G x).fin ++ e := by
    cases hf : (G x).fin with
    | true => exact ⟨[], by simp⟩
    | false => exact ⟨_, strm_finish _⟩
  refine ⟨fun y => ?_, fun y t e => ?_, I.k1, fun y e => ?_, fun y => ?_, fun y s hs' => ?_⟩
  · rcases eq_or_not x y with rfl | rfl
    · rw [put_same]; exact (I.g y).finish
    · rw [put_not]; exact I.g (!x)
  · rcases eq_or_not x y with rfl | rfl
    · rw [put_not]; exact I.t y t e
    · have q := I.t (!x) t e
      rw [nn] at q ⊢
      rw [put_same, hfin, hhi]
      exact q.ended
  · rcases eq_or_not x y with rfl | rfl
    · rw [put_same]; exact I.nt y e
    · rw [put_not]; exact I.nt (!x) e
  · rcases eq_or_not x y with rfl | rfl
    · rw [put_same]; exact I.ans y
    · rw [put_not]; exact I.ans (!x)
  · rcases eq_or_not x y with rfl | rfl
    · rw [put_not]; exact I.seg y s hs'
    · have q := I.seg (!x) s hs'
      rw [nn] at q ⊢
      rw [put_same, hfin, hhi]
      exact q.longer (I.g x).hwle hs
end
end SW
end
section
/-! What holds of the talks of a world. -/
namespace SW
structure TlOk (port first : Bool → Nat) (now : Nat) (cuts : Bool) (x : Bool) (tl : Tl) : Prop where
  here : tl.here = port x
  there : tl.there = port !x
  fst : tl.first = first x
  fin : tl.fin = tl.g.fin
  last : tl.last ≤ now
  oth : tl.other = if tl.t.isNone = true then none else some (first !x)
  cut : tl.ending = .cut → cuts = true
  gone : tl.ending = .gone → 800 < now
  tried : tl.ending ≠ .gone → tl.g.tried < 16
  rs : tl.rested ≠ none ↔ (tl.fin = true ∧ tl.tover = true ∧ tl.g.kept = [])
  rl : ∀ s, tl.rested = some s → s ≤ now
/-- what holds of two talks (the second may not have begun yet) -/
structure Pair (w : Wd) (T : Bool → Tl) : Prop where
  core : Core w.first w.wrote w.has w.road w.now (fun x => (T x).g) (fun x => (T x).t)
  ok : ∀ x, TlOk w.port w.first w.now w.cuts x (T x)
  pt : ∀ x, w.port x < 256
  by_ : ∀ x, ∀ n ∈ w.wrote x, n < 256
def SegIn (w : Wd) (T : Bool → Tl) (x : Bool) (s : Sg) : Prop := SegOk (!x) (w.first !x) (w.wrote !x) (T !x).g.fin (T !x).g.hi (w.first x) (wof (w.first x) (T !x).t) s

theorem put_g (T : Bool → Tl) (x : Bool) (tl : Tl) : (fun y => (put T x tl y).g) = put (fun y => (T y).g) x tl.g := by
  funext y; unfold put; split <;> rfl
theorem put_t (T : Bool → Tl) (x : Bool) (tl : Tl) : (fun y => (put T x tl y).t) = put (fun y => (T y).t) x tl.t := by
  funext y; unfold put; split <;> rfl
theorem put_self {α : Type} (f : Bool → α) (x : Bool) : put f x (f x) = f := by
  funext y; unfold put; split
  · rename_i h; rw [h]
  · rfl
theorem put_put {α : Type} (f : Bool → α) (x : Bool) (u v : α) : put (put f x u) x v = put f x v := by
  funext y; unfold put; split <;> rfl
section
variable {w : Wd} {T : Bool → Tl}
theorem TlOk.later {port first : Bool → Nat} {now t : Nat} {cuts : Bool} {x : Bool} {tl : Tl} (h : TlOk port first now cuts x tl) (ht : now ≤ t) : TlOk port first t cuts x tl :=
  ⟨h.here, h.there, h.fst, h.fin, Nat.le_trans h.last ht, h.oth, h.cut, fun e => Nat.lt_of_lt_of_le (h.gone e) ht, h.tried, h.rs, fun s e => Nat.le_trans (h.rl s e) ht⟩
theorem TlOk.cuts {port first : Bool → Nat} {now : Nat} {c c' : Bool} {x : Bool} {tl : Tl} (h : TlOk port first now c x tl) (hc : c = true → c' = true) : TlOk port first now c' x tl :=
  ⟨h.here, h.there, h.fst, h.fin, h.last, h.oth, fun e => hc (h.cut e), h.gone, h.tried, h.rs, h.rl⟩
theorem TlOk.at_ {port first : Bool → Nat} {now : Nat} {c : Bool} {x : Bool} {tl : Tl} (h : TlOk port first now c x tl) : TlOk port first now c x (tl.at_ now) :=
  ⟨h.here, h.there, h.fst, h.fin, Nat.le_refl _, h.oth, h.cut, h.gone, h.tried, h.rs, h.rl⟩
theorem TlOk.cutting {port first : Bool → Nat} {now : Nat} {x : Bool} {tl : Tl} (h : TlOk port first now true x tl) (ht : tl.ending ≠ .gone) : TlOk port first now true x { tl with ending := .cut } :=
  ⟨h.here, h.there, h.fst, h.fin, h.last, h.oth, fun _ => rfl, (fun e => nomatch e), fun _ => h.tried ht, h.rs, h.rl⟩
theorem Pair.later (I : Pair w T) (many : Nat) : Pair { w with now := w.now + many } T :=
  ⟨I.core.later (Nat.le_add_right _ _), fun x => (I.ok x).later (Nat.le_add_right _ _), I.pt, I.by_⟩
theorem Pair.seen (I : Pair w T) (s : Sg) : Pair (w.seen s) T :=
  ⟨I.core, fun x => (I.ok x).cuts (fun h => by show (w.cuts || s.c) = true; rw [h]; rfl), I.pt, I.by_⟩
theorem Pair.roads (I : Pair w T) {road' : Bool → List Sg} (h : ∀ x, ∀ s ∈ road' x, s ∈ w.road x) : Pair { w with road := road' } T :=
  ⟨I.core.roads h, I.ok, I.pt, I.by_⟩
theorem Pair.talk (I : Pair w T) (t : Bool → Option Tl) : Pair { w with talk := t } T := ⟨I.core, I.ok, I.pt, I.by_⟩
theorem Pair.told (I : Pair w T) (t : Bool → Bool) : Pair { w with told := t } T := ⟨I.core, I.ok, I.pt, I.by_⟩
theorem Pair.seg (I : Pair w T) {x : Bool} {s : Sg} (h : s ∈ w.road x) : SegIn w T x s := I.core.seg x s h
theorem Pair.g (I : Pair w T) (x : Bool) : GInv (w.first x) (w.wrote x) w.now (T x).g := I.core.g x
theorem Pair.t (I : Pair w T) (x : Bool) {t : Tk} (h : (T x).t = some t) : TInv (w.first !x) (w.wrote !x) (T !x).g.fin (T !x).g.hi (w.has x) t := I.core.t x t h
theorem ok_put {w' : Wd} {x : Bool} {tl : Tl} (h : ∀ y, TlOk w'.port w'.first w'.now w'.cuts y (T y)) (hx : TlOk w'.port w'.first w'.now w'.cuts x tl) : ∀ y, TlOk w'.port w'.first w'.now w'.cuts y (put T x tl y) := fun y => by
  rcases eq_or_not x y with rfl | rfl
  · rw [put_same]; exact hx
  · rw [put_not]; exact h (!x)
/-- only what stands in no core is changed -/
theorem Pair.plain (I : Pair w T) (x : Bool) {tl : Tl} (h : TlOk w.port w.first w.now w.cuts x tl) (hg : tl.g = (T x).g) (ht : tl.t = (T x).t) : Pair w (put T x tl) := by
  refine ⟨?_, ok_put I.ok h, I.pt, I.by_⟩
  rw [put_g, put_t, hg, ht, put_self (fun y => (T y).g), put_self (fun y => (T y).t)]
  exact I.core
theorem Pair.upd (I : Pair w T) (x : Bool) {tl : Tl} (J : Pair w (put T x tl)) {out : List Sg} (h : ∀ s ∈ out, SegOk x (w.first x) (w.wrote x) tl.g.fin tl.g.hi (w.first !x) (wof (w.first !x) tl.t) s) : Pair (w.upd x tl out) (put T x tl) := by
  refine ⟨Core.send J.core x out fun s hs => ?_, J.ok, J.pt, J.by_⟩
  have q := h s hs
  show SegOk x _ _ (put T x tl x).g.fin (put T x tl x).g.hi _ (wof _ (put T x tl x).t) s
  rw [put_same]
  exact q
/-! ### a segment is heard -/
theorem Pair.open_of (I : Pair w T) (x : Bool) (h : (T x).g.passed ≠ 0) : (T !x).t ≠ none := fun e => by
  have h1 := I.core.ans x
  have e1 : wof (w.first x) (T !x).t = 0 := by rw [e]; rfl
  have h1 : (T x).g.passed ≤ wof (w.first x) (T !x).t := h1
  omega
/-- no bad answer comes -/
theorem Pair.notbad (I : Pair w T) (x : Bool) {s : Sg} (hs : SegIn w T x s) (ha : s.a = true) (hz : (T x).g.passed = 0) : (T x).isAnswer s.answer = true := by
  obtain ⟨h1, h2, h3⟩ := hs.an ha
  have hw : wof (w.first x) (T !x).t ≤ (T x).g.hi := I.core.wle x
  have hg := I.g x
  obtain ⟨_, z2⟩ := hg.zero hz
  have hhi : (T x).g.hi = (T x).g.sent := by unfold Gv.hi; omega
  have hj : far (w.first x) s.answer = 1 := by omega
  have hsent : (T x).g.sent = 1 := by omega
  have hfl := hg.fl
  have e0 : moved (T x).first (T x).g.passed = w.first x := by rw [(I.ok x).fst, hz, moved_zero hfl]
  have e1 : s.answer = moved (w.first x) 1 := by rw [← hj, moved_far hfl h1]
  have e2 : (T x).g.next = moved (w.first x) 1 := by rw [hg.next, hz, hsent]
  unfold Tl.isAnswer
  rw [e0, e2, ← e1, if_neg (Nat.lt_irrefl _), (I.ok x).fst]
  simp [e1]
theorem TlOk.rest {port first : Bool → Nat} {now : Nat} {c : Bool} {x : Bool} {tl : Tl} (here : tl.here = port x) (there : tl.there = port !x) (fst : tl.first = first x) (fin : tl.fin = tl.g.fin) (last : tl.last ≤ now)
    (oth : tl.other = if tl.t.isNone = true then none else some (first !x)) (cut : tl.ending = .cut → c = true) (gone : tl.ending = .gone → 800 < now) (tried : tl.ending ≠ .gone → tl.g.tried < 16)
    (rs : tl.rested ≠ none → (tl.fin = true ∧ tl.tover = true ∧ tl.g.kept = [])) (rl : ∀ s, tl.rested = some s → s ≤ now) : TlOk port first now c x (tl.rest now) := by
  refine ⟨here, there, fst, fin, last, oth, cut, gone, tried, ?_, ?_⟩
  · show (if tl.rested = none ∧ tl.fin = true ∧ tl.tover = true ∧ tl.g.kept.length = 0 then some now else tl.rested) ≠ none ↔ (tl.fin = true ∧ tl.tover = true ∧ tl.g.kept = [])
    by_cases q : tl.rested = none ∧ tl.fin = true ∧ tl.tover = true ∧ tl.g.kept.length = 0
    · rw [if_pos q]
      exact ⟨fun _ => ⟨q.2.1, q.2.2.1, List.eq_nil_of_length_eq_zero q.2.2.2⟩, fun _ => by simp⟩
    · rw [if_neg q]
      refine ⟨rs, fun h e => q ⟨e, h.1, h.2.1, by rw [h.2.2]; rfl⟩⟩
  · intro s e
    have e : (if tl.rested = none ∧ tl.fin = true ∧ tl.tover = true ∧ tl.g.kept.length = 0 then some now else tl.rested) = some s := e
    split at e
    · cases e; exact Nat.le_refl _
    · exact rl s e
theorem take_over {t : Tk} (h : t.over = true) (num : Nat) (l : List It) : t.take num l = t := by unfold Tk.take; rw [if_pos h]
theorem takes_over {t : Tk} (h : t.over = true) (num : Nat) (l : List It) : t.takes num l = t := by
  unfold Tk.takes
  split <;> exact take_over h _ _
/-- what lies in a segment with o -/
theorem SegOk.first_of {y : Bool} {fy : Nat} {wr : List Nat} {fin : Bool} {hi fx wy : Nat} {s : Sg} (h : SegOk y fy wr fin hi fx wy s) (hf : fy < 4294967296) (hc : s.c = false) (ho : s.o = true) : s.number = fy ∧ 1 ≤ hi := by
  obtain ⟨h1, h2⟩ := h.it hc
  have e : s.items = .o :: (s.data.map .b ++ (if s.e = true then [.e] else [])) := by unfold Sg.items; rw [if_pos ho]; rfl
  have hl : 1 ≤ s.items.length := by rw [e]; exact Nat.le_add_left _ _
  have h0 : s.items[0]? = some .o := by rw [e]; rfl
  rw [h2, List.getElem?_take, if_pos (by omega), List.getElem?_drop] at h0
  have hz := strm_o h0
  have hz' : far fy s.number = far fy fy := by rw [far_self hf]; omega
  exact ⟨far_inj hf h.num hf hz', by omega⟩
/-- the state of the taker begins -/
theorem Pair.begin (I : Pair w T) (x : Bool) {s : Sg} (hs : SegIn w T x s) (hn : (T x).t = none) (hc : s.c = false) (ho : s.o = true) : Pair w (put T x ((T x).begin s.number)) := by
  have hok := I.ok x
  have hf := (I.g !x).fl
  obtain ⟨e1, h1⟩ := hs.first_of hf hc ho
  have hh := I.core.nt x hn
  have ht : TInv (w.first !x) (w.wrote !x) (T !x).g.fin (T !x).g.hi [] (.new (moved (w.first !x) 1)) := TInv.start hf (I.g !x).len h1 (I.g !x).hwle
  refine ⟨?_, ok_put I.ok ?_, I.pt, I.by_⟩
  · rw [put_g, put_t]
    show Core w.first w.wrote w.has w.road w.now (put (fun y => (T y).g) x (T x).g) (put (fun y => (T y).t) x (some (.new (moved s.number 1))))
    rw [put_self (fun y => (T y).g), e1]
    have q := I.core.taker x ht (by show wof _ (T x).t ≤ _; rw [hn]; exact Nat.zero_le _)
    rw [← hh.1, put_self] at q
    exact q
  · refine ⟨hok.here, hok.there, hok.fst, hok.fin, hok.last, ?_, hok.cut, hok.gone, hok.tried, ?_, hok.rl⟩
    · show some s.number = if (some (Tk.new (moved s.number 1))).isNone = true then none else some (w.first !x)
      rw [e1]; rfl
    · rw [show ((T x).begin s.number).rested = (T x).rested from rfl, hok.rs]
      have e : (T x).tover = false := by unfold Tl.tover; rw [hn]
      constructor
      · rintro ⟨_, q, _⟩; rw [e] at q; cases q
      · rintro ⟨_, q, _⟩; cases q
theorem Gv.heard_tried (g : Gv) (ans room t : Nat) : (g.heard ans room t).tried ≤ g.tried := by
  unfold Gv.heard
  split
  · exact Nat.le_refl _
  · obtain ⟨_, _, _, _, _, _, e7, _⟩ := (g.got ans (far g.base ans) room t).count_fields t
    rw [e7]; exact Nat.zero_le _
theorem Gv.heard_nil (g : Gv) (ans room t : Nat) (h : g.kept = []) : (g.heard ans room t).kept = [] := by
  unfold Gv.heard
  split
  · exact h
  · obtain ⟨_, _, e3, _⟩ := (g.got ans (far g.base ans) room t).count_fields t
    rw [e3]
    show g.kept.drop _ = []
    rw [h]; simp
/-- a segment counts -/
theorem Pair.counted (I : Pair w T) (x : Bool) {s : Sg} (hs : SegIn w T x s) {t : Tk} (ht : (T x).t = some t) (hc : s.c = false) : Pair w (put T x ((T x).counted s w.now)) := by
  have hok := I.ok x
  cases ha : s.a with
  | false =>
    have e : (T x).counted s w.now = (T x).rest w.now := by unfold Tl.counted Tl.hearA; rw [ha]; rfl
    rw [e]
    exact I.plain x (TlOk.rest hok.here hok.there hok.fst hok.fin hok.last hok.oth hok.cut hok.gone hok.tried hok.rs.mp hok.rl) rfl rfl
  | true =>
    obtain ⟨a1, a2, a3⟩ := hs.an ha
    obtain ⟨i1, i2⟩ := hs.it hc
    have hg := I.g x
    have hw : wof (w.first x) (T !x).t ≤ (T x).g.hi := I.core.wle x
    have hhi : (T x).g.hi = (T x).g.passed + (T x).g.sent := rfl
    have g1 := hg.heard (room := s.room) a1 a2 (by omega)
    obtain ⟨g2, g3, g4⟩ := hg.heard_passed (room := s.room) a1 (by omega)
    obtain ⟨t1, t2⟩ := (I.t x ht).takes s.number hs.num s.items i2 i1
    have e : (T x).hearA s w.now = ({ T x with g := (T x).g.heard s.answer s.room w.now, t := some (t.takes s.number s.items) } : Tl) := by
      unfold Tl.hearA Tl.takes
      rw [ha, if_pos rfl]
      simp only [ht, Option.map_some]
    have ans := I.core.ans x
    refine ⟨?_, ok_put I.ok ?_, I.pt, I.by_⟩
    · rw [put_g, put_t]
      unfold Tl.counted
      rw [e]
      show Core w.first w.wrote w.has w.road w.now (put (fun y => (T y).g) x ((T x).g.heard s.answer s.room w.now)) (put (fun y => (T y).t) x (some (t.takes s.number s.items)))
      have c1 := I.core.giver x g1 g4 (by show (T x).g.hi ≤ _ + _; rw [hhi]; omega) (fun h => by have h : (T x).t = none := h; rw [ht] at h; cases h) (by rw [g2]; exact Nat.max_le.mpr ⟨ans, a3⟩)
      have c2 := c1.taker x (t' := t.takes s.number s.items) (has' := w.has x) (by rw [put_not]; exact t1) (by show wof _ (T x).t ≤ _; rw [ht]; exact t2)
      rw [put_self] at c2
      exact c2
    · unfold Tl.counted
      rw [e]
      refine TlOk.rest hok.here hok.there hok.fst (hok.fin.trans g4.symm) hok.last ?_ hok.cut hok.gone (fun h => Nat.lt_of_le_of_lt (Gv.heard_tried _ _ _ _) (hok.tried h)) (fun h => ?_) hok.rl
      · have q := hok.oth
        rw [ht] at q
        exact q
      · obtain ⟨q1, q2, q3⟩ := hok.rs.mp h
        have q4 : t.over = true := by unfold Tl.tover at q2; rw [ht] at q2; exact q2
        refine ⟨q1, ?_, Gv.heard_nil _ _ _ _ q3⟩
        show (t.takes s.number s.items).over = true
        rw [takes_over q4]
        exact q4
/-- what is told at once -/
theorem Pair.reply (I : Pair w T) (x : Bool) (s : Sg) (h : (T x).t ≠ none) : ∀ r ∈ (T x).reply s, SegOk x (w.first x) (w.wrote x) (T x).g.fin (T x).g.hi (w.first !x) (wof (w.first !x) (T x).t) r := fun r hr => by
  unfold Tl.reply at hr
  split at hr
  · have hr := List.mem_singleton.mp hr
    subst hr
    obtain ⟨t, ht⟩ := Option.ne_none_iff_exists'.mp h
    have hg := I.g x
    have hT := I.t x ht
    have hn : (T x).g.next = moved (w.first x) (T x).g.hi := hg.next
    have hb := I.core.hib x
    have hfar : far (w.first x) (T x).g.next = (T x).g.hi := by
      have hb : (T x).g.hi ≤ 5002 := hb
      rw [hn, far_moved hg.fl (by omega)]
    refine ⟨?_, ?_, Nat.zero_le _, (fun h => by cases h), fun _ => ⟨?_, ?_⟩, fun _ => ?_, (fun h => by cases h)⟩
    · show (T x).g.next < _
      rw [hn]; exact moved_lt _ _
    · show (if true = true then (match (T x).t with | none => 0 | some t => t.free) else 0) ≤ 128
      rw [ht]
      show 128 - t.unread.length ≤ 128
      omega
    · show far (w.first x) (T x).g.next + 0 ≤ _
      rw [hfar]
      exact Nat.le_refl _
    · rfl
    · show (if true = true then (match (T x).t with | none => 0 | some t => t.wanted) else 0) < _ ∧ 1 ≤ far _ (if true = true then (match (T x).t with | none => 0 | some t => t.wanted) else 0) ∧ far _ (if true = true then (match (T x).t with | none => 0 | some t => t.wanted) else 0) ≤ _
      rw [ht]
      exact ⟨hT.wl, hT.w1, Nat.le_refl _⟩
  · cases hr
theorem way_counts {tl : Tl} {s : Sg} (h : tl.way s = .counts) : tl.isOver = false ∧ (s.a = true → tl.isAnswer s.answer = true) ∧ s.c = false ∧ (tl.t = none → s.o = true ∧ s.a = true) := by
  unfold Tl.way at h
  by_cases h1 : tl.isOver = true
  · rw [if_pos h1] at h; cases h
  rw [if_neg h1] at h
  by_cases h2 : s.a = true ∧ tl.isAnswer s.answer = false
  · rw [if_pos h2] at h
    split at h <;> cases h
  rw [if_neg h2] at h
  by_cases h3 : s.c = true
  · rw [if_pos h3] at h; cases h
  rw [if_neg h3] at h
  by_cases h4 : tl.t.isNone = true ∧ (s.o = false ∨ s.a = false)
  · rw [if_pos h4] at h; cases h
  refine ⟨by simpa using h1, fun ha => ?_, by simpa using h3, fun hn => ?_⟩
  · cases q : tl.isAnswer s.answer with
    | true => rfl
    | false => exact absurd ⟨ha, q⟩ h2
  · rw [hn] at h4
    cases ho : s.o <;> cases ha : s.a <;> simp [ho, ha] at h4 ⊢
theorem way_bad {tl : Tl} {s : Sg} (h : tl.way s = .bad) : s.a = true ∧ tl.isAnswer s.answer = false ∧ tl.isOpen = false := by
  unfold Tl.way at h
  split at h
  · cases h
  split at h
  · rename_i h2
    split at h
    · cases h
    · rename_i h3
      exact ⟨h2.1, h2.2, by cases q : tl.isOpen with | false => rfl | true => exact absurd (Or.inl q) h3⟩
  split at h
  · cases h
  split at h <;> cases h
theorem way_cuts {tl : Tl} {s : Sg} (h : tl.way s = .cuts) : tl.isOver = false ∧ s.c = true := by
  unfold Tl.way at h
  by_cases h1 : tl.isOver = true
  · rw [if_pos h1] at h; cases h
  rw [if_neg h1] at h
  refine ⟨by simpa using h1, ?_⟩
  split at h
  · split at h <;> cases h
  split at h
  · assumption
  split at h <;> cases h
theorem notover_gone {tl : Tl} (h : tl.isOver = false) : tl.ending = .no := by
  unfold Tl.isOver at h
  cases e : tl.ending with
  | no => rfl
  | cut => unfold Tl.stand at h; rw [e] at h; simp at h
  | gone => unfold Tl.stand at h; rw [e] at h; simp at h
/-- a segment comes to x -/
theorem Pair.heard (I : Pair w T) (x : Bool) {s : Sg} (hs : SegIn w T x s) : Pair ((w.seen s).upd x ((T x).heard s w.now) ((T x).heardOut s w.now)) (put T x ((T x).heard s w.now)) := by
  have I0 := I.seen s
  have hok := (I0.ok x).at_
  have Ia : Pair (w.seen s) (put T x ((T x).at_ w.now)) := I0.plain x hok rfl rfl
  have hsa : SegIn (w.seen s) (put T x ((T x).at_ w.now)) x s := by
    show SegOk (!x) _ _ (put T x ((T x).at_ w.now) !x).g.fin (put T x ((T x).at_ w.now) !x).g.hi _ (wof _ (put T x ((T x).at_ w.now) !x).t) s
    rw [put_not]
    exact hs
  have nobad : ((T x).at_ w.now).way s ≠ .bad := fun h => by
    obtain ⟨b1, b2, b3⟩ := way_bad h
    have q := Ia.notbad x hsa b1 (by rw [put_same]; simpa [Tl.isOpen] using b3)
    rw [put_same] at q
    rw [q] at b2
    cases b2
  have plain : ∀ {tl : Tl}, tl = (T x).at_ w.now → Pair ((w.seen s).upd x tl []) (put T x tl) := fun e => by
    rw [e]
    exact I0.upd x Ia fun r hr => by cases hr
  have hH : (T x).heard s w.now = match ((T x).at_ w.now).way s with
    | .cuts => if ((T x).at_ w.now).isCutBy s = true then { (T x).at_ w.now with ending := .cut } else (T x).at_ w.now
    | .counts => (((T x).at_ w.now).heard1 s).counted s w.now
    | _ => (T x).at_ w.now := rfl
  have hO : (T x).heardOut s w.now = match ((T x).at_ w.now).way s with
    | .bad => [((T x).at_ w.now).made false true false false false s.answer []]
    | .counts => ((((T x).at_ w.now).heard1 s).counted s w.now).reply s
    | _ => [] := rfl
  rw [hH, hO]
  cases hway : ((T x).at_ w.now).way s with
  | dead => exact plain rfl
  | drop => exact plain rfl
  | early => exact plain rfl
  | bad => exact absurd hway nobad
  | cuts =>
    obtain ⟨c1, c2⟩ := way_cuts hway
    have hc : (w.seen s).cuts = true := by show (w.cuts || s.c) = true; rw [c2]; simp
    simp only
    split
    · have h1 : TlOk (w.seen s).port (w.seen s).first (w.seen s).now (w.seen s).cuts x { (T x).at_ w.now with ending := .cut } := by
        rw [hc] at hok ⊢
        exact hok.cutting (show ((T x).at_ w.now).ending ≠ .gone by rw [notover_gone c1]; exact fun e => nomatch e)
      exact I0.upd x (I0.plain x h1 rfl rfl) (out := []) fun r hr => by cases hr
    · exact plain rfl
  | counts =>
    obtain ⟨c1, c2, c3, c4⟩ := way_counts hway
    simp only
    have J : Pair (w.seen s) (put T x (((T x).at_ w.now).heard1 s)) ∧ ∃ t, (((T x).at_ w.now).heard1 s).t = some t := by
      unfold Tl.heard1
      cases e : ((T x).at_ w.now).t with
      | some t => exact ⟨Ia, t, e⟩
      | none =>
        rw [if_pos (show (none : Option Tk).isNone = true from rfl)]
        refine ⟨?_, _, rfl⟩
        have q := Ia.begin x hsa (by rw [put_same]; exact e) c3 (c4 e).1
        rw [put_same, put_put] at q
        exact q
    obtain ⟨J, t, ht⟩ := J
    have hsj : SegIn (w.seen s) (put T x (((T x).at_ w.now).heard1 s)) x s := by
      show SegOk (!x) _ _ (put T x _ !x).g.fin (put T x _ !x).g.hi _ (wof _ (put T x _ !x).t) s
      rw [put_not]
      exact hs
    have L := J.counted x hsj (by rw [put_same]; exact ht) c3
    rw [put_same, put_put] at L
    refine I0.upd x L ?_
    have hr := L.reply x s (by
      rw [put_same]
      unfold Tl.counted Tl.hearA Tl.takes Tl.rest
      split <;> simp [ht])
    rw [put_same] at hr
    exact hr
/-! ### what is due -/
theorem slice_len {l : List It} {a n m : Nat} {p : List It} (h : p = (l.drop n).take m) : p = (l.drop n).take p.length := by
  have e : p.length = min m (l.drop n).length := by rw [h, List.length_take]
  rw [e]
  by_cases c : m ≤ (l.drop n).length
  · rw [Nat.min_eq_left c]; exact h
  · rw [Nat.min_eq_right (by omega), List.take_of_length_le (Nat.le_refl _), h, List.take_of_length_le (by omega)]
theorem tau_16 {k : Nat} (h : 16 ≤ k) : 828 ≤ tau k := by
  obtain ⟨j, rfl⟩ : ∃ j, k = j + 4 := ⟨k - 4, by omega⟩
  show 828 ≤ 60 + 64 * j
  omega
theorem Gv.again_some (g : Gv) (t : Nat) (h : (g.again t).tried ≠ g.tried) : g.isAgain t = true := by
  unfold Gv.again at h
  by_cases c : g.isAgain t = true
  · exact c
  · rw [if_neg c] at h; exact absurd rfl h
theorem Gv.due_tried (g : Gv) (t : Nat) : (g.due t).tried = (g.due1 t).tried := by
  obtain ⟨_, _, _, _, _, _, e7, _⟩ := ({ g.due1 t with sent := max (g.due1 t).sent (g.due1 t).last } : Gv).count_fields t
  exact e7
theorem Gv.again_tried (g : Gv) (t : Nat) : (g.again t).tried ≤ g.tried + 1 := by
  unfold Gv.again
  split
  · exact Nat.le_refl _
  · exact Nat.le_succ _
/-- where nothing is answered and nothing may go: no pair but of items -/
theorem GInv.pair_nil {f : Nat} {wr : List Nat} {now : Nat} {g : Gv} (I : GInv f wr now g) (h : g.reach ≠ 0) : ∀ p ∈ g.duePairs now, p.2 ≠ [] := by
  obtain ⟨a1, a2, a3, a4, a5, a6⟩ := g.due1_fields now
  obtain ⟨c1, c2, c3, c4, c5, _⟩ := ({ g with now := now } : Gv).count_fields now
  have hl : (g.due1 now).last ≤ g.kept.length := by unfold Gv.last; rw [a2]; omega
  have hs := I.sent
  intro p hp
  unfold Gv.duePairs at hp
  rw [a1, a2, a3] at hp
  rcases List.mem_append.mp hp with hp | hp
  · unfold Gv.againPairs at hp
    split at hp
    · rename_i hi
      have hp := List.mem_singleton.mp hp
      subst hp
      obtain ⟨s, e, _⟩ := Gv.isAgain_true hi
      have hc := Gv.count_hc _ _ (by rw [e]; simp)
      unfold Gv.counted at hc
      rw [c4, c3, c5] at hc
      simp only [Bool.or_eq_true, Bool.and_eq_true, decide_eq_true_eq] at hc
      have hsent : 0 < g.sent := by
        rcases hc with hc | hc
        · exact hc
        · exact absurd hc.2 h
      rw [c3, c4]
      intro e
      have e2 : (g.kept.take (min 32 g.sent)).length = 0 := by
        have e : g.kept.take (min 32 g.sent) = [] := e
        rw [e]; rfl
      rw [List.length_take] at e2
      omega
    · cases hp
  · obtain ⟨n, m, _, _, _, _, _, h6⟩ := chunks_ok g.base g.kept _ hl _ g.sent (Nat.le_refl _) p hp
    exact h6
theorem bytesOf_len (l : List It) : (bytesOf l).length ≤ l.length := by
  induction l with
  | nil => exact Nat.le_refl _
  | cons a r ih =>
    cases a with
    | o => exact Nat.le_succ_of_le ih
    | e => exact Nat.le_succ_of_le ih
    | b n => exact Nat.succ_le_succ ih
theorem Pair.due (I : Pair w T) (x : Bool) : Pair (w.upd x ((T x).due w.now) ((T x).dueOut w.now)) (put T x ((T x).due w.now)) ∧ ((T x).dueOut w.now).length ≤ 17 := by
  have hok := (I.ok x).at_
  have hg := I.g x
  have Ia : Pair w (put T x ((T x).at_ w.now)) := I.plain x hok rfl rfl
  have hD : (T x).due w.now = if ((T x).at_ w.now).isOver = true then (T x).at_ w.now else if 16 ≤ ((T x).dueG w.now).g.tried then { (T x).dueG w.now with ending := .gone } else (T x).dueG w.now := rfl
  have hO : (T x).dueOut w.now = if ((T x).at_ w.now).isOver = true then [] else if 16 ≤ ((T x).dueG w.now).g.tried then [] else ((T x).g.duePairs w.now).map fun p => ((T x).dueG w.now).segmentOf p.1 p.2 := rfl
  rw [hD, hO]
  by_cases ho : ((T x).at_ w.now).isOver = true
  · rw [if_pos ho, if_pos ho]
    exact ⟨I.upd x Ia (fun r hr => (List.not_mem_nil hr).elim), Nat.zero_le _⟩
  rw [if_neg ho, if_neg ho]
  have hno : (T x).ending = .no := notover_gone (tl := (T x).at_ w.now) (by simpa using ho)
  have gd := hg.due
  obtain ⟨b1, b2, b3, b4, b5, b6⟩ := (T x).g.due_fields w.now
  have hhi : (T x).g.hi ≤ ((T x).g.due w.now).hi := by unfold Gv.hi; rw [b5, b3]; omega
  have cd : Core w.first w.wrote w.has w.road w.now (put (fun y => (T y).g) x ((T x).g.due w.now)) (put (fun y => (T y).t) x (T x).t) := by
    rw [put_self (fun y => (T y).t)]
    exact I.core.giver x gd b6 hhi (fun h => by rw [b5]; exact (I.core.nt x h).2) (by rw [b5]; exact I.core.ans x)
  have okD : ∀ {tl : Tl}, tl.here = (T x).here → tl.there = (T x).there → tl.first = (T x).first → tl.fin = (T x).fin → tl.last = w.now → tl.other = (T x).other → tl.t = (T x).t → tl.g = (T x).g.due w.now → tl.rested = (T x).rested →
      (tl.ending = .cut → w.cuts = true) → (tl.ending = .gone → 800 < w.now) → (tl.ending ≠ .gone → tl.g.tried < 16) → TlOk w.port w.first w.now w.cuts x tl := fun e1 e2 e3 e4 e5 e6 e7 e8 e9 h1 h2 h3 => by
    have q := I.ok x
    refine ⟨e1.trans q.here, e2.trans q.there, e3.trans q.fst, ?_, by rw [e5]; exact Nat.le_refl _, ?_, h1, h2, h3, ?_, ?_⟩
    · rw [e4, e8, b6]; exact q.fin
    · rw [e6, e7]; exact q.oth
    · unfold Tl.tover
      rw [e9, e4, e7, e8, b2]
      exact q.rs
    · rw [e9]; exact q.rl
  by_cases h16 : 16 ≤ ((T x).dueG w.now).g.tried
  · rw [if_pos h16, if_pos h16]
    have h16 : 16 ≤ ((T x).g.due w.now).tried := h16
    obtain ⟨_, s, es, hs⟩ := gd.tried (by omega)
    have h1 := gd.since s es
    have h2 := tau_16 h16
    have okx : TlOk w.port w.first w.now w.cuts x { (T x).dueG w.now with ending := .gone } := okD rfl rfl rfl rfl rfl rfl rfl rfl rfl (fun e => by cases e) (fun _ => by omega) (fun e => absurd rfl e)
    refine ⟨I.upd x ⟨?_, ok_put I.ok okx, I.pt, I.by_⟩ (fun r hr => (List.not_mem_nil hr).elim), Nat.zero_le _⟩
    rw [put_g, put_t]
    exact cd
  · rw [if_neg h16, if_neg h16]
    have h16' : ((T x).g.due w.now).tried < 16 := Nat.lt_of_not_le h16
    have okx : TlOk w.port w.first w.now w.cuts x ((T x).dueG w.now) := okD rfl rfl rfl rfl rfl rfl rfl rfl rfl
      (fun e => by rw [show ((T x).dueG w.now).ending = (T x).ending from rfl, hno] at e; cases e) (fun e => by rw [show ((T x).dueG w.now).ending = (T x).ending from rfl, hno] at e; cases e) (fun _ => h16')
    have J : Pair w (put T x ((T x).dueG w.now)) := by
      refine ⟨?_, ok_put I.ok okx, I.pt, I.by_⟩
      rw [put_g, put_t]
      exact cd
    obtain ⟨p1, p2⟩ := hg.pairs
    refine ⟨I.upd x J fun r hr => ?_, by rw [List.length_map]; exact p2⟩
    obtain ⟨p, hp, rfl⟩ := List.mem_map.mp hr
    obtain ⟨n, m, n1, n2, n3, n4⟩ := p1 p hp
    have hb := gd.hwle
    have hb2 := slen_le (w.wrote x) ((T x).g.due w.now).fin
    have hb3 := hg.len
    have e1 : p.1 = moved (w.first x) ((T x).g.passed + n) := by rw [n1, hg.base, moved_moved]
    have hn : (T x).g.passed + n + p.2.length ≤ ((T x).g.due w.now).hi := by unfold Gv.hi; rw [b5]; omega
    have hfar : far (w.first x) p.1 = (T x).g.passed + n := by
      unfold Gv.hi at hn
      rw [e1, far_moved hg.fl (by omega)]
    have e2 : p.2 = ((strm (w.wrote x) (T x).g.fin).drop ((T x).g.passed + n)).take m := by rw [n2, hg.kept, List.drop_drop]
    have hit : (((T x).dueG w.now).segmentOf p.1 p.2).items = p.2 := by
      show glue p.2 = p.2
      conv => lhs; rw [e2, glue_slice]
      exact e2.symm
    have hbl := bytesOf_len p.2
    refine ⟨by rw [show (((T x).dueG w.now).segmentOf p.1 p.2).number = p.1 from rfl, e1]; exact moved_lt _ _, ?_, ?_, (fun h => by cases h), fun _ => ⟨?_, ?_⟩, fun ha => ?_, fun ha _ => ?_⟩
    · show (if (T x).t.isSome = true then (match (T x).t with | none => 0 | some t => t.free) else 0) ≤ 128
      cases ht : (T x).t with
      | none => exact Nat.zero_le _
      | some t => show 128 - t.unread.length ≤ 128; omega
    · show (bytesOf p.2).length ≤ 200
      omega
    · rw [hit, show (((T x).dueG w.now).segmentOf p.1 p.2).number = p.1 from rfl, hfar]
      exact hn
    · rw [hit, show (((T x).dueG w.now).segmentOf p.1 p.2).number = p.1 from rfl, hfar]
      show p.2 = ((strm (w.wrote x) ((T x).g.due w.now).fin).drop _).take _
      rw [b6]
      exact slice_len (a := 0) e2
    · have ha : (T x).t.isSome = true := ha
      show (if (T x).t.isSome = true then (match (T x).t with | none => 0 | some t => t.wanted) else 0) < _ ∧ 1 ≤ far _ (if (T x).t.isSome = true then (match (T x).t with | none => 0 | some t => t.wanted) else 0) ∧ far _ (if (T x).t.isSome = true then (match (T x).t with | none => 0 | some t => t.wanted) else 0) ≤ wof _ (T x).t
      cases ht : (T x).t with
      | none => rw [ht] at ha; cases ha
      | some t =>
        have hT := I.t x ht
        exact ⟨hT.wl, hT.w1, Nat.le_refl _⟩
    · have ha : (T x).t.isSome = false := ha
      have ht : (T x).t = none := by
        cases e : (T x).t with
        | none => rfl
        | some t => rw [e] at ha; cases ha
      have hx : x = false := by
        cases x with
        | false => rfl
        | true => exact absurd ht I.core.k1
      have hz : (T x).g.passed = 0 := (I.core.nt x ht).2
      obtain ⟨z1, z2⟩ := hg.zero hz
      obtain ⟨_, z3⟩ := gd.zero (by rw [b5]; exact hz)
      have hne := hg.pair_nil (by omega) p hp
      have hlen : 0 < p.2.length := by
        cases q : p.2 with
        | nil => exact absurd q hne
        | cons a r => exact Nat.succ_pos _
      have hn0 : n = 0 := by omega
      have hl1 : p.2.length = 1 := by omega
      have e3 : p.2 = [.o] := by
        have e4 := slice_len (a := 0) e2
        rw [hl1, hz, hn0] at e4
        exact e4
      refine ⟨hx, ?_, ?_, ?_, ?_⟩
      · show decide (It.o ∈ p.2) = true; rw [e3]; rfl
      · show bytesOf p.2 = []; rw [e3]; rfl
      · show decide (It.e ∈ p.2) = false; rw [e3]; rfl
      · show decide (p.2 = []) = false; rw [e3]; rfl
/-! ### what an end does by itself -/
theorem Pair.write (I : Pair w T) (x : Bool) {d : List Nat} (hd : (w.wrote x).length + d.length ≤ 5000) (hb : ∀ n ∈ d, n < 256) (tk : Bool → Option Tl) :
    Pair { w with talk := tk, wrote := put w.wrote x (w.wrote x ++ d.take ((T x).many d)) } (put T x ((T x).write d)) := by
  unfold Tl.write Tl.many
  by_cases ho : (T x).isOver = true
  · rw [if_pos ho, if_pos ho, put_self]
    have e : put w.wrote x (w.wrote x ++ d.take 0) = w.wrote := by simp [put_self]
    rw [e]
    exact ⟨I.core, I.ok, I.pt, I.by_⟩
  rw [if_neg ho, if_neg ho]
  have q := I.ok x
  have okx : TlOk w.port w.first w.now w.cuts x { T x with g := (T x).g.write d } := by
    refine ⟨q.here, q.there, q.fst, q.fin, q.last, q.oth, q.cut, q.gone, q.tried, ?_, q.rl⟩
    show (T x).rested ≠ none ↔ ((T x).fin = true ∧ (T x).tover = true ∧ ((T x).g.kept ++ (d.take ((T x).g.many d)).map .b) = [])
    rw [q.rs]
    cases hf : (T x).fin with
    | false => simp
    | true =>
      have e : (T x).g.many d = 0 := by unfold Gv.many; rw [if_pos (by rw [← q.fin]; exact hf)]
      rw [e]
      simp
  refine ⟨?_, ok_put I.ok okx, I.pt, fun y n hn => ?_⟩
  · rw [put_g, put_t]
    show Core w.first (put w.wrote x (w.wrote x ++ d.take ((T x).g.many d))) w.has w.road w.now (put (fun y => (T y).g) x ((T x).g.write d)) (put (fun y => (T y).t) x (T x).t)
    rw [put_self (fun y => (T y).t)]
    exact I.core.write x hd
  · have hn : n ∈ put w.wrote x (w.wrote x ++ d.take ((T x).g.many d)) y := hn
    rcases eq_or_not x y with rfl | rfl
    · rw [put_same] at hn
      rcases List.mem_append.mp hn with hn | hn
      · exact I.by_ y n hn
      · exact hb n (List.mem_of_mem_take hn)
    · rw [put_not] at hn
      exact I.by_ (!x) n hn
theorem Pair.finish (I : Pair w T) (x : Bool) : Pair w (put T x (T x).finish) := by
  unfold Tl.finish
  by_cases ho : (T x).isOver = true
  · rw [if_pos ho, put_self]
    exact I
  rw [if_neg ho]
  have q := I.ok x
  have okx : TlOk w.port w.first w.now w.cuts x { T x with fin := true, g := (T x).g.finish } := by
    refine ⟨q.here, q.there, q.fst, rfl, q.last, q.oth, q.cut, q.gone, q.tried, ?_, q.rl⟩
    show (T x).rested ≠ none ↔ (true = true ∧ (T x).tover = true ∧ (if (T x).g.fin = true then (T x).g.kept else (T x).g.kept ++ [.e]) = [])
    rw [q.rs, q.fin]
    cases hf : (T x).g.fin with
    | false => simp
    | true => simp
  refine ⟨?_, ok_put I.ok okx, I.pt, I.by_⟩
  rw [put_g, put_t]
  show Core w.first w.wrote w.has w.road w.now (put (fun y => (T y).g) x (T x).g.finish) (put (fun y => (T y).t) x (T x).t)
  rw [put_self (fun y => (T y).t)]
  exact I.core.finish x
theorem Pair.read (I : Pair w T) (x : Bool) (n : Nat) (tk : Bool → Option Tl) : Pair { w with talk := tk, has := put w.has x (w.has x ++ (T x).readOut n) } (put T x ((T x).read n)) := by
  have q := I.ok x
  cases ht : (T x).t with
  | none =>
    have e : (T x).read n = T x := by unfold Tl.read; rw [ht]; show ({ T x with t := none } : Tl) = T x; rw [← ht]
    have e2 : (T x).readOut n = [] := by unfold Tl.readOut; rw [ht]
    rw [e, e2, put_self, List.append_nil, put_self]
    exact I.talk tk
  | some t =>
    have e : (T x).read n = { T x with t := some (t.read n) } := by unfold Tl.read; rw [ht]; rfl
    have e2 : (T x).readOut n = t.unread.take n := by unfold Tl.readOut; rw [ht]
    rw [e, e2]
    have okx : TlOk w.port w.first w.now w.cuts x { T x with t := some (t.read n) } := by
      refine ⟨q.here, q.there, q.fst, q.fin, q.last, ?_, q.cut, q.gone, q.tried, ?_, q.rl⟩
      · have h := q.oth
        rw [ht] at h
        exact h
      · have h := q.rs
        unfold Tl.tover at h ⊢
        rw [ht] at h
        exact h
    refine ⟨?_, ok_put I.ok okx, I.pt, I.by_⟩
    rw [put_g, put_t]
    show Core w.first w.wrote (put w.has x (w.has x ++ t.unread.take n)) w.road w.now (put (fun y => (T y).g) x (T x).g) (put (fun y => (T y).t) x (some (t.read n)))
    rw [put_self (fun y => (T y).g)]
    exact I.core.taker x ((I.t x ht).read n) (by show wof _ (T x).t ≤ _; rw [ht]; exact Nat.le_refl _)
theorem Pair.cut (I : Pair w T) (x : Bool) : Pair (({ w with cuts := true } : Wd).upd x (T x).cut (T x).cutOut) (put T x (T x).cut) := by
  have I0 : Pair { w with cuts := true } T := ⟨I.core, fun y => (I.ok y).cuts fun _ => rfl, I.pt, I.by_⟩
  have hC : (T x).cut = if (T x).isOver = true then T x else { T x with ending := .cut } := rfl
  have hO : (T x).cutOut = if (T x).isOver = true then [] else [({ T x with ending := .cut } : Tl).made false true false false false (T x).g.next []] := rfl
  rw [hC, hO]
  by_cases ho : (T x).isOver = true
  · rw [if_pos ho, if_pos ho]
    exact I0.upd x (by rw [put_self]; exact I0) fun r hr => by cases hr
  rw [if_neg ho, if_neg ho]
  have hno : (T x).ending = .no := notover_gone (by simpa using ho)
  have okx := (I0.ok x).cutting (by rw [hno]; exact fun e => nomatch e)
  refine I0.upd x (I0.plain x okx rfl rfl) fun r hr => ?_
  have hr := List.mem_singleton.mp hr
  subst hr
  refine ⟨?_, Nat.zero_le _, Nat.zero_le _, fun _ => ⟨rfl, rfl, rfl⟩, (fun h => by cases h), (fun h => by cases h), (fun _ h => by cases h)⟩
  show (T x).g.next < _
  rw [(I.g x).next]
  exact moved_lt _ _
end
end SW
end
section
/-! The world: its invariant holds behind each deed; what is right follows. -/
namespace SW
/-- the second talk ahead of its beginning -/
noncomputable def Wd.ph (w : Wd) : Tl := .new (w.port true) (w.port false) (w.first true) 0 (some (w.first false))
noncomputable def Wd.T (w : Wd) (x : Bool) : Tl := match w.talk x with
  | some tl => tl
  | none => w.ph
structure WInv (w : Wd) : Prop where
  pair : Pair w w.T
  t0 : w.talk false ≠ none
  lone : w.talk true = none → (w.T false).t = none ∧ w.road false = [] ∧ w.has true = [] ∧ w.wrote true = []
section
variable {w : Wd}
theorem T_some {x : Bool} {tl : Tl} (h : w.talk x = some tl) : w.T x = tl := by unfold Wd.T; rw [h]
theorem WInv.talk0 (I : WInv w) : w.talk false = some (w.T false) := by
  obtain ⟨tl, h⟩ := Option.ne_none_iff_exists'.mp I.t0
  rw [T_some h, h]
theorem talk_T {x : Bool} (h : w.talk x ≠ none) : w.talk x = some (w.T x) := by
  obtain ⟨tl, h⟩ := Option.ne_none_iff_exists'.mp h
  rw [T_some h, h]
/-- where a talk of the world is changed -/
theorem T_put {w' : Wd} {x : Bool} {tl : Tl} (h1 : w'.talk = put w.talk x (some tl)) (h2 : w'.port = w.port) (h3 : w'.first = w.first) : w'.T = put w.T x tl := by
  funext y
  have hp : w'.ph = w.ph := by unfold Wd.ph; rw [h2, h3]
  unfold Wd.T
  rw [h1]
  rcases eq_or_not x y with rfl | rfl
  · rw [put_same, put_same]
  · rw [put_not, put_not, hp]
theorem T_keep {w' : Wd} (h1 : w'.talk = w.talk) (h2 : w'.port = w.port) (h3 : w'.first = w.first) : w'.T = w.T := by
  have hp : w'.ph = w.ph := by unfold Wd.ph; rw [h2, h3]
  funext y
  unfold Wd.T
  rw [h1, hp]
theorem put_tf {α : Type} (f : Bool → α) (v : α) : put f true v false = f false := put_ne _ _ (by decide)
theorem put_ft {α : Type} (f : Bool → α) (v : α) : put f false v true = f true := put_ne _ _ (by decide)
theorem due_some {x : Bool} {tl : Tl} (h : w.talk x = some tl) : w.due x = w.upd x (tl.due w.now) (tl.dueOut w.now) := by unfold Wd.due; rw [h]
theorem due_none {x : Bool} (h : w.talk x = none) : w.due x = w := by unfold Wd.due; rw [h]
theorem write_some {x : Bool} {tl : Tl} (h : w.talk x = some tl) (d : List Nat) : w.write x d = { w with talk := put w.talk x (some (tl.write d)), wrote := put w.wrote x (w.wrote x ++ d.take (tl.many d)) } := by unfold Wd.write; rw [h]
theorem write_none {x : Bool} (h : w.talk x = none) (d : List Nat) : w.write x d = w := by unfold Wd.write; rw [h]
theorem read_some {x : Bool} {tl : Tl} (h : w.talk x = some tl) (n : Nat) : w.read x n = { w with talk := put w.talk x (some (tl.read n)), has := put w.has x (w.has x ++ tl.readOut n) } := by unfold Wd.read; rw [h]
theorem read_none {x : Bool} (h : w.talk x = none) (n : Nat) : w.read x n = w := by unfold Wd.read; rw [h]
theorem finish_some {x : Bool} {tl : Tl} (h : w.talk x = some tl) : w.finish x = { w with talk := put w.talk x (some tl.finish) } := by unfold Wd.finish; rw [h]
theorem finish_none {x : Bool} (h : w.talk x = none) : w.finish x = w := by unfold Wd.finish; rw [h]
theorem cut_some {x : Bool} {tl : Tl} (h : w.talk x = some tl) : w.cut x = ({ w with cuts := true } : Wd).upd x tl.cut tl.cutOut := by unfold Wd.cut; rw [h]
theorem cut_none {x : Bool} (h : w.talk x = none) : w.cut x = w := by unfold Wd.cut; rw [h]
theorem come_some {x : Bool} {tl : Tl} (h : w.talk x = some tl) (s : Sg) : w.come x s = (w.seen s).upd x (tl.heard s w.now) (tl.heardOut s w.now) := by unfold Wd.come; rw [h]
noncomputable def Wd.bear (w : Wd) (s : Sg) : Wd := { w.seen s with talk := put w.talk true (some (.new (w.port true) (w.port false) (w.first true) w.now (some s.number))) }
theorem come_begin {s : Sg} (h : w.talk true = none) (c : s.o = true ∧ s.a = false ∧ s.c = false) : w.come true s = w.bear s := by unfold Wd.come; rw [h]; exact if_pos c
theorem come_none {x : Bool} {s : Sg} (h : w.talk x = none) (c : ¬ (s.o = true ∧ s.a = false ∧ s.c = false)) : w.come x s = w.seen s := by unfold Wd.come; rw [h]; exact if_neg c
theorem upd_T (x : Bool) (tl : Tl) (out : List Sg) : (w.upd x tl out).T = put w.T x tl := T_put rfl rfl rfl
theorem put_isSome {α : Type} {f : Bool → Option α} {x y : Bool} {v : α} (h : f y ≠ none) : put f x (some v) y ≠ none := by
  rcases eq_or_not x y with rfl | rfl
  · rw [put_same]; simp
  · rw [put_not]; exact h
/-- a deed of x that keeps what a lone one has -/
theorem WInv.mk_put {w' : Wd} {x : Bool} {tl : Tl} (I : WInv w) (hx : w.talk x ≠ none) (h1 : w'.talk = put w.talk x (some tl)) (h2 : w'.port = w.port) (h3 : w'.first = w.first) (J : Pair w' (put w.T x tl))
    (h4 : w.talk true = none → x = false → tl.t = none ∧ w'.road false = [] ∧ w'.has true = [] ∧ w'.wrote true = []) : WInv w' := by
  have hT : w'.T = put w.T x tl := T_put h1 h2 h3
  refine ⟨by rw [hT]; exact J, by rw [h1]; exact put_isSome I.t0, fun hn => ?_⟩
  rw [h1] at hn
  rcases eq_or_not x true with hq | hq
  · rw [hq, put_same] at hn; cases hn
  · have hx0 : x = false := by
      cases x with
      | false => rfl
      | true => exact absurd hq (by decide)
    subst hx0
    have hn' : w.talk true = none := by rw [← hn]; exact (put_ne _ _ (by decide)).symm
    rw [hT, put_same]
    exact h4 hn' rfl
theorem WInv.later (I : WInv w) (many : Nat) : WInv { w with now := w.now + many } := by
  have hT : ({ w with now := w.now + many } : Wd).T = w.T := T_keep rfl rfl rfl
  exact ⟨by rw [hT]; exact I.pair.later many, I.t0, fun h => by rw [hT]; exact I.lone h⟩
theorem WInv.tell (I : WInv w) (x : Bool) : WInv (w.tell x) := by
  have hT : (w.tell x).T = w.T := T_keep rfl rfl rfl
  exact ⟨by rw [hT]; exact I.pair.told _, I.t0, fun h => by rw [hT]; exact I.lone h⟩
theorem WInv.roads (I : WInv w) {road' : Bool → List Sg} (h : ∀ x, ∀ s ∈ road' x, s ∈ w.road x) : WInv { w with road := road' } := by
  have hT : ({ w with road := road' } : Wd).T = w.T := T_keep rfl rfl rfl
  refine ⟨by rw [hT]; exact I.pair.roads h, I.t0, fun hn => ?_⟩
  rw [hT]
  obtain ⟨h1, h2, h3, h4⟩ := I.lone hn
  refine ⟨h1, List.eq_nil_iff_forall_not_mem.mpr fun s hs => ?_, h3, h4⟩
  have := h false s hs
  rw [h2] at this
  cases this
theorem due_t (tl : Tl) (t : Nat) : (tl.due t).t = tl.t := by
  unfold Tl.due
  split
  · rfl
  split <;> rfl
theorem WInv.due (I : WInv w) (x : Bool) : WInv (w.due x) := by
  cases h : w.talk x with
  | none => rw [due_none h]; exact I
  | some tl =>
    rw [due_some h]
    have e := T_some h
    have q := (I.pair.due x).1
    rw [e] at q
    refine I.mk_put (by rw [h]; simp) (tl := tl.due w.now) rfl rfl rfl q fun hn hx => ?_
    subst hx
    obtain ⟨h1, h2, h3, h4⟩ := I.lone hn
    rw [e] at h1
    exact ⟨by rw [due_t]; exact h1, h2, h3, h4⟩
theorem WInv.ticked (I : WInv w) (many : Nat) : WInv (w.ticked many) := ((I.later many).due false).due true
theorem WInv.write (I : WInv w) (x : Bool) {d : List Nat} (hd : (w.wrote x).length + d.length ≤ 5000) (hb : ∀ n ∈ d, n < 256) : WInv (w.write x d) := by
  cases h : w.talk x with
  | none => rw [write_none h]; exact I
  | some tl =>
    rw [write_some h]
    have e := T_some h
    have q := I.pair.write x hd hb (put w.talk x (some (tl.write d)))
    rw [e] at q
    refine I.mk_put (by rw [h]; simp) (tl := tl.write d) rfl rfl rfl q fun hn hx => ?_
    subst hx
    obtain ⟨h1, h2, h3, h4⟩ := I.lone hn
    rw [e] at h1
    refine ⟨?_, h2, h3, h4⟩
    unfold Tl.write
    split <;> exact h1
theorem WInv.finish (I : WInv w) (x : Bool) : WInv (w.finish x) := by
  cases h : w.talk x with
  | none => rw [finish_none h]; exact I
  | some tl =>
    rw [finish_some h]
    have e := T_some h
    have q := (I.pair.finish x).talk (put w.talk x (some tl.finish))
    rw [e] at q
    refine I.mk_put (by rw [h]; simp) (tl := tl.finish) rfl rfl rfl q fun hn hx => ?_
    subst hx
    obtain ⟨h1, h2, h3, h4⟩ := I.lone hn
    rw [e] at h1
    refine ⟨?_, h2, h3, h4⟩
    unfold Tl.finish
    split <;> exact h1
theorem WInv.read (I : WInv w) (x : Bool) (n : Nat) : WInv (w.read x n) := by
  cases h : w.talk x with
  | none => rw [read_none h]; exact I
  | some tl =>
    rw [read_some h]
    have e := T_some h
    have q := I.pair.read x n (put w.talk x (some (tl.read n)))
    rw [e] at q
    refine I.mk_put (by rw [h]; simp) (tl := tl.read n) rfl rfl rfl q fun hn hx => ?_
    subst hx
    obtain ⟨h1, h2, h3, h4⟩ := I.lone hn
    rw [e] at h1
    refine ⟨?_, h2, h3, h4⟩
    unfold Tl.read
    rw [h1]
    rfl
theorem WInv.cut (I : WInv w) (x : Bool) : WInv (w.cut x) := by
  cases h : w.talk x with
  | none => rw [cut_none h]; exact I
  | some tl =>
    rw [cut_some h]
    have e := T_some h
    have q := I.pair.cut x
    rw [e] at q
    refine I.mk_put (by rw [h]; simp) (tl := tl.cut) rfl rfl rfl q fun hn hx => ?_
    subst hx
    obtain ⟨h1, h2, h3, h4⟩ := I.lone hn
    rw [e] at h1
    refine ⟨?_, h2, h3, h4⟩
    unfold Tl.cut
    split <;> exact h1
/-- a segment comes to x, that lies on its road -/
theorem WInv.come (I : WInv w) (x : Bool) {s : Sg} (hs : s ∈ w.road x) : WInv (w.come x s) := by
  have hin : SegIn w w.T x s := I.pair.seg hs
  cases h : w.talk x with
  | some tl =>
    rw [come_some h]
    have e := T_some h
    have q := I.pair.heard x hin
    rw [e] at q
    refine I.mk_put (by rw [h]; simp) (tl := tl.heard s w.now) rfl rfl rfl q fun hn hx => ?_
    subst hx
    obtain ⟨h1, h2, h3, h4⟩ := I.lone hn
    rw [h2] at hs
    cases hs
  | none =>
    have hx : x = true := by
      cases x with
      | true => rfl
      | false => exact absurd h I.t0
    subst hx
    have hsT : (w.seen s).T = w.T := T_keep rfl rfl rfl
    by_cases c : s.o = true ∧ s.a = false ∧ s.c = false
    · rw [come_begin h c]
      obtain ⟨c1, c2, c3⟩ := c
      have hf := (I.pair.g false).fl
      obtain ⟨e1, _⟩ := hin.first_of hf c3 c1
      have e1 : s.number = w.first false := e1
      have hph : w.T true = w.ph := by unfold Wd.T; rw [h]
      have hok := I.pair.ok true
      rw [hph] at hok
      have okx : TlOk (w.seen s).port (w.seen s).first (w.seen s).now (w.seen s).cuts true (.new (w.port true) (w.port false) (w.first true) w.now (some s.number)) := by
        rw [e1]
        exact ((hok.cuts (c' := (w.seen s).cuts) (fun h => by show (w.cuts || s.c) = true; rw [h]; rfl)).at_)
      have J := ((I.pair.seen s).plain true okx (by rw [hph, e1]; rfl) (by rw [hph, e1]; rfl)).talk (put w.talk true (some (.new (w.port true) (w.port false) (w.first true) w.now (some s.number))))
      have hT : (w.bear s).T = put w.T true (.new (w.port true) (w.port false) (w.first true) w.now (some s.number)) := T_put rfl rfl rfl
      refine ⟨by rw [hT]; exact J, ?_, fun hn => ?_⟩
      · exact I.t0
      · have hn : put w.talk true (some (Tl.new (w.port true) (w.port false) (w.first true) w.now (some s.number))) true = none := hn
        rw [put_same] at hn
        cases hn
    · rw [come_none h c]
      exact ⟨by rw [hsT]; exact I.pair.seen s, I.t0, fun hn => by rw [hsT]; exact I.lone hn⟩
/-- a segment comes and does not lie there any more -/
theorem come_road (w : Wd) (road' : Bool → List Sg) (x : Bool) (s : Sg) : (({ w with road := road' } : Wd).come x s) = { (w.come x s) with road := put road' (!x) (road' (!x) ++ (match w.talk x with | some tl => tl.heardOut s w.now | none => [])) } := by
  unfold Wd.come
  show (match w.talk x with | some tl => _ | none => _) = _
  cases h : w.talk x with
  | some tl => rfl
  | none =>
    simp only [List.append_nil, put_self]
    show (if s.o = true ∧ s.a = false ∧ s.c = false then _ else _) = _
    split <;> rfl
theorem come_roads (w : Wd) (x : Bool) (s : Sg) : (w.come x s).road = put w.road (!x) (w.road (!x) ++ (match w.talk x with | some tl => tl.heardOut s w.now | none => [])) := by
  have h := come_road w w.road x s
  exact congrArg Wd.road h
theorem WInv.comes (I : WInv w) (x : Bool) {s : Sg} (hs : s ∈ w.road x) {r : List Sg} (hr : ∀ q ∈ r, q ∈ w.road x) : WInv (({ w with road := put w.road x r } : Wd).come x s) := by
  rw [come_road]
  refine (I.come x hs).roads fun y q hq => ?_
  rw [come_roads]
  rcases eq_or_not x y with rfl | rfl
  · rw [put_not'] at hq ⊢
    rw [put_same] at hq
    exact hr q hq
  · rw [put_same] at hq ⊢
    rw [put_not] at hq
    exact hq
theorem WInv.step (I : WInv w) : WInv w.step := by
  unfold Wd.step
  cases h : w.road false with
  | cons s r =>
    exact I.comes false (by rw [h]; exact List.mem_cons_self ..) fun q hq => by rw [h]; exact List.mem_cons_of_mem _ hq
  | nil =>
    simp only
    cases h2 : w.road true with
    | nil => exact I
    | cons s r => exact I.comes true (by rw [h2]; exact List.mem_cons_self ..) fun q hq => by rw [h2]; exact List.mem_cons_of_mem _ hq
/-! ### what is right -/
def Stand.isOn : Stand → Bool
  | .opn => true | .ends => true | .left => true | .rests => true | _ => false
structure Right (w : Wd) : Prop where
  has : ∀ x, w.has x = (w.wrote !x).take (w.has x).length ∧ (w.has x).length ≤ (w.wrote !x).length
  ready : ∀ x tl, w.talk x = some tl → tl.ready ≤ 128
  on : ∀ x tl, w.talk x = some tl → tl.stand.isOn = true → tl.first = w.first x ∧ ∃ ot, w.talk (!x) = some ot ∧ tl.other = some ot.first ∧ ot.other = some tl.first
theorem on_open {tl : Tl} (h : tl.stand.isOn = true) : tl.g.passed ≠ 0 := fun e => by
  unfold Tl.stand at h
  have ho : tl.isOpen = false := by unfold Tl.isOpen; rw [e]; rfl
  rw [ho] at h
  cases he : tl.ending <;> rw [he] at h
  · simp only [Bool.false_eq_true, if_false] at h
    split at h <;> cases h
  · cases h
  · cases h
theorem WInv.right (I : WInv w) : Right w := by
  refine ⟨fun x => ?_, fun x tl h => ?_, fun x tl h hon => ?_⟩
  · cases ht : (w.T x).t with
    | none =>
      have h := (I.pair.core.nt x ht).1
      rw [h]
      exact ⟨rfl, Nat.zero_le _⟩
    | some t =>
      have hT := (I.pair.t x ht).got
      have h1 : w.has x = ((w.wrote !x).take (far (w.first !x) t.wanted - 1)).take (w.has x).length := by rw [← hT]; simp
      have h2 : (w.has x).length ≤ ((w.wrote !x).take (far (w.first !x) t.wanted - 1)).length := by rw [← hT, List.length_append]; omega
      rw [List.length_take] at h2
      refine ⟨?_, by omega⟩
      rw [List.take_take, Nat.min_eq_left (by omega)] at h1
      exact h1
  · rw [← T_some h]
    unfold Tl.ready
    cases ht : (w.T x).t with
    | none => exact Nat.zero_le _
    | some t => exact (I.pair.t x ht).room
  · have e := T_some h
    have ho := on_open hon
    rw [← e] at ho ⊢
    have h1 := I.pair.open_of x ho
    have h2 : (w.T x).t ≠ none := fun q => ho (I.pair.core.nt x q).2
    have hx : w.talk (!x) ≠ none := by
      cases x with
      | true => exact I.t0
      | false =>
        intro q
        exact h2 (I.lone q).1
    have k1 := I.pair.ok x
    have k2 := I.pair.ok !x
    refine ⟨k1.fst, _, talk_T hx, ?_, ?_⟩
    · rw [k1.oth, k2.fst]
      cases q : (w.T x).t with
      | none => exact absurd q h2
      | some t => rfl
    · rw [k2.oth, nn, k1.fst]
      cases q : (w.T !x).t with
      | none => exact absurd q h1
      | some t => rfl
end
end SW
end
section
/-! The beginning; how what lies comes to its end. -/
namespace SW
def g1 (f : Nat) : Gv := { Gv.new f with sent := 1, since := some 0 }
def open1 (port first : Bool → Nat) : Sg := { src := port false, tgt := port true, a := false, c := false, e := false, o := true, q := false, number := first false, answer := 0, room := 0, data := [] }
def tl1 (port first : Bool → Nat) : Tl := { Tl.new0 (port false) (port true) (first false) 0 with g := g1 (first false) }
theorem due_new (f : Nat) : (Gv.new f).due 0 = g1 f := rfl
theorem pairs_new {f : Nat} (hf : f < 4294967296) : (Gv.new f).duePairs 0 = [(f, [.o])] := by
  show [] ++ chunks f [.o] 0 1 = _
  rw [chunks, dif_pos (by decide), chunks, dif_neg (by decide), moved_zero hf]
  rfl
def Wd.first1 (port first : Bool → Nat) : Wd :=
  { port := port, first := first, road := put (fun _ => []) true [open1 port first], wrote := fun _ => [], has := fun _ => [], now := 0,
    talk := put (fun _ => none) false (some (tl1 port first)), told := fun _ => false, cuts := false }
theorem begun_ticked (port first : Bool → Nat) (hf : first false < 4294967296) : (Wd.begun port first).ticked 0 = Wd.first1 port first := by
  have h0 : ({ Wd.begun port first with now := (Wd.begun port first).now + 0 } : Wd) = Wd.begun port first := rfl
  have hd : (Tl.new (port false) (port true) (first false) 0 none).due 0 = tl1 port first := rfl
  have ho : (Tl.new (port false) (port true) (first false) 0 none).dueOut 0 = [open1 port first] := by
    show ((Gv.new (first false)).duePairs 0).map _ = _
    rw [pairs_new hf]
    rfl
  have h1 : (Wd.begun port first).due false = Wd.first1 port first := by
    rw [due_some (w := Wd.begun port first) (x := false) (tl := Tl.new (port false) (port true) (first false) 0 none) rfl]
    show (Wd.begun port first).upd false ((Tl.new (port false) (port true) (first false) 0 none).due 0) ((Tl.new (port false) (port true) (first false) 0 none).dueOut 0) = _
    rw [hd, ho]
    unfold Wd.upd Wd.first1 Wd.begun
    simp only [put_put]
    rfl
  unfold Wd.ticked
  rw [h0, h1, due_none]
  rfl
theorem g1_inv {f : Nat} (hf : f < 4294967296) : GInv f [] 0 (g1 f) := (GInv.start (now := 0) hf).due
theorem first1_inv (port first : Bool → Nat) (hp : ∀ x, port x < 256) (hf : ∀ x, first x < 4294967296) : WInv (Wd.first1 port first) := by
  have e1 : (Wd.first1 port first).T false = tl1 port first := rfl
  have e2 : (Wd.first1 port first).T true = Tl.new (port true) (port false) (first true) 0 (some (first false)) := rfl
  refine ⟨⟨⟨fun x => ?_, fun x t e => ?_, ?_, fun x e => ?_, fun x => ?_, fun x s hs => ?_⟩, fun x => ?_, hp, fun x n hn => by cases hn⟩, ?_, fun _ => ⟨rfl, rfl, rfl, rfl⟩⟩
  · cases x with
    | false => exact g1_inv (hf false)
    | true => exact GInv.start (hf true)
  · cases x with
    | false => cases e
    | true =>
      cases e
      exact TInv.start (hf false) (Nat.zero_le _) (Nat.le_refl _) (Nat.le_refl _)
  · show ((Wd.first1 port first).T true).t ≠ none
    rw [e2]
    exact fun h => nomatch h
  · cases x with
    | false => exact ⟨rfl, rfl⟩
    | true => cases e
  · cases x with
    | false => exact Nat.zero_le _
    | true => exact Nat.zero_le _
  · cases x with
    | false => cases hs
    | true =>
      have hs := List.mem_singleton.mp hs
      subst hs
      refine ⟨hf false, Nat.zero_le _, Nat.zero_le _, (fun h => by cases h), fun _ => ⟨?_, ?_⟩, (fun h => by cases h), fun _ _ => ⟨rfl, rfl, rfl, rfl, rfl⟩⟩
      · show far (first false) (first false) + 1 ≤ 1
        rw [far_self (hf false)]
        exact Nat.le_refl _
      · show [It.o] = ((strm [] false).drop (far (first false) (first false))).take 1
        rw [far_self (hf false)]
        rfl
  · cases x with
    | false =>
      exact ⟨rfl, rfl, rfl, rfl, Nat.le_refl _, rfl, (fun h => by cases h), (fun h => by cases h), fun _ => (by decide : 0 < 16), by
        show none ≠ none ↔ _
        exact ⟨fun h => absurd rfl h, fun h => by cases h.1⟩, fun s e => by cases e⟩
    | true =>
      exact ⟨rfl, rfl, rfl, rfl, Nat.le_refl _, rfl, (fun h => by cases h), (fun h => by cases h), fun _ => (by decide : 0 < 16), by
        show none ≠ none ↔ _
        exact ⟨fun h => absurd rfl h, fun h => by cases h.1⟩, fun s e => by cases e⟩
  · exact fun h => nomatch h

/-! ### what lies comes to its end -/
def Sg.weight (s : Sg) : Nat := if s.items ≠ [] ∨ s.q = true then 2 else 1
def weigh : List Sg → Nat
  | [] => 0
  | s :: r => s.weight + weigh r
theorem weigh_append (a b : List Sg) : weigh (a ++ b) = weigh a + weigh b := by
  induction a with
  | nil => exact (Nat.zero_add _).symm
  | cons s r ih => show s.weight + weigh (r ++ b) = s.weight + weigh r + weigh b; rw [ih]; omega
theorem weight_pos (s : Sg) : 1 ≤ s.weight := by unfold Sg.weight; split <;> omega
def Wd.load (w : Wd) : Nat := weigh (w.road false) + weigh (w.road true)
theorem reply_weight (tl : Tl) (s : Sg) : weigh (tl.reply s) + 1 ≤ s.weight := by
  unfold Tl.reply Sg.weight
  by_cases c : s.items ≠ [] ∨ s.q = true
  · rw [if_pos c, if_pos c]
    exact Nat.le_refl _
  · rw [if_neg c, if_neg c]
    exact Nat.le_refl _
theorem Pair.nobad {w : Wd} {T : Bool → Tl} (I : Pair w T) (x : Bool) {s : Sg} (hs : SegIn w T x s) (t : Nat) : ((T x).at_ t).way s ≠ .bad := fun h => by
  obtain ⟨b1, b2, b3⟩ := way_bad h
  have q := I.notbad x hs b1 (by have b4 := of_decide_eq_false (show decide (0 < (T x).g.passed) = false from b3); omega)
  have b2 : (T x).isAnswer s.answer = false := b2
  rw [q] at b2
  cases b2
theorem heardOut_weight {w : Wd} (I : WInv w) (x : Bool) {s : Sg} (hs : s ∈ w.road x) {tl : Tl} (h : w.talk x = some tl) : weigh (tl.heardOut s w.now) + 1 ≤ s.weight ∧ (tl.heardOut s w.now).length ≤ 1 := by
  have hb := I.pair.nobad x (I.pair.seg hs) w.now
  rw [T_some h] at hb
  have hw := weight_pos s
  unfold Tl.heardOut
  cases hway : (tl.at_ w.now).way s with
  | bad => exact absurd hway hb
  | counts =>
    refine ⟨reply_weight _ _, ?_⟩
    show ((((tl.at_ w.now).heard1 s).counted s w.now).reply s).length ≤ 1
    unfold Tl.reply
    split
    · exact Nat.le_refl _
    · exact Nat.zero_le _
  | dead => exact ⟨hw, Nat.zero_le _⟩
  | drop => exact ⟨hw, Nat.zero_le _⟩
  | early => exact ⟨hw, Nat.zero_le _⟩
  | cuts => exact ⟨hw, Nat.zero_le _⟩
def Wd.lies (w : Wd) : Nat := (w.road false).length + (w.road true).length
/-- what is behind a coming lies less heavily, and is no more -/
theorem come_load {w : Wd} (I : WInv w) (x : Bool) {s : Sg} {r : List Sg} (h : w.road x = s :: r) :
    (({ w with road := put w.road x r } : Wd).come x s).load + 1 ≤ w.load ∧ (({ w with road := put w.road x r } : Wd).come x s).lies ≤ w.lies := by
  have hs : s ∈ w.road x := by rw [h]; exact List.mem_cons_self ..
  have hr : (({ w with road := put w.road x r } : Wd).come x s).road = put (put w.road x r) (!x) (put w.road x r (!x) ++ (match w.talk x with | some tl => tl.heardOut s w.now | none => [])) := come_roads _ x s
  have hout : weigh (match w.talk x with | some tl => tl.heardOut s w.now | none => []) + 1 ≤ s.weight ∧ (match w.talk x with | some tl => tl.heardOut s w.now | none => []).length ≤ 1 := by
    cases e : w.talk x with
    | some tl => exact heardOut_weight I x hs e
    | none => exact ⟨weight_pos s, Nat.zero_le _⟩
  unfold Wd.load Wd.lies
  rw [hr]
  generalize (match w.talk x with | some tl => tl.heardOut s w.now | none => []) = out at hout
  obtain ⟨h1, h2⟩ := hout
  cases x with
  | false =>
    show weigh r + weigh (w.road true ++ out) + 1 ≤ weigh (w.road false) + weigh (w.road true) ∧ r.length + (w.road true ++ out).length ≤ (w.road false).length + (w.road true).length
    rw [h, weigh_append, List.length_append]
    show weigh r + (weigh (w.road true) + weigh out) + 1 ≤ s.weight + weigh r + weigh (w.road true) ∧ r.length + ((w.road true).length + out.length) ≤ r.length + 1 + (w.road true).length
    omega
  | true =>
    show weigh (w.road false ++ out) + weigh r + 1 ≤ weigh (w.road false) + weigh (w.road true) ∧ (w.road false ++ out).length + r.length ≤ (w.road false).length + (w.road true).length
    rw [h, weigh_append, List.length_append]
    show weigh (w.road false) + weigh out + weigh r + 1 ≤ weigh (w.road false) + (s.weight + weigh r) ∧ (w.road false).length + out.length + r.length ≤ (w.road false).length + (r.length + 1)
    omega
def Wd.empty (w : Wd) : Prop := w.road false = [] ∧ w.road true = []
theorem step_load {w : Wd} (I : WInv w) (h : ¬ w.empty) : w.step.load + 1 ≤ w.load ∧ w.step.lies ≤ w.lies := by
  unfold Wd.step
  cases e : w.road false with
  | cons s r => exact come_load I false e
  | nil =>
    cases e2 : w.road true with
    | cons s r => exact come_load I true e2
    | nil => exact absurd ⟨e, e2⟩ h
theorem step_empty {w : Wd} (h : w.empty) : w.step = w := by
  unfold Wd.step
  rw [h.1, h.2]
end SW
end
section
/-! All that lies comes: what holds meanwhile. -/
namespace SW
/-- the number that a segment answers, or lo -/
noncomputable def ansOf (f lo : Nat) (s : Sg) : Nat := if s.a = true then far f s.answer else lo
def Fifo (f : Nat) : Nat → List Sg → Prop
  | _, [] => True
  | lo, s :: r => lo ≤ ansOf f lo s ∧ Fifo f (ansOf f lo s) r
theorem Fifo.low {f : Nat} : ∀ {l : List Sg} {lo lo' : Nat}, lo' ≤ lo → Fifo f lo l → Fifo f lo' l
  | [], _, _, _, _ => trivial
  | s :: r, lo, lo', h, hf => by
    obtain ⟨h1, h2⟩ := hf
    unfold ansOf at h1 h2
    by_cases c : s.a = true
    · rw [if_pos c] at h1 h2
      refine ⟨?_, ?_⟩ <;> unfold ansOf <;> rw [if_pos c]
      · omega
      · exact h2
    · rw [if_neg c] at h1 h2
      refine ⟨?_, ?_⟩ <;> unfold ansOf <;> rw [if_neg c]
      · exact Nat.le_refl _
      · exact Fifo.low h h2
/-- more behind, each of which answers with the same number, that none ahead passes -/
theorem Fifo.app {f W : Nat} {out : List Sg} (ho : ∀ s ∈ out, s.a = true → far f s.answer = W) : ∀ {l : List Sg} {lo : Nat}, (∀ s ∈ l, s.a = true → far f s.answer ≤ W) → lo ≤ W → Fifo f lo l → Fifo f lo (l ++ out)
  | [], lo, _, hlo, _ => by
    show Fifo f lo out
    induction out generalizing lo with
    | nil => trivial
    | cons s r ih =>
      have hr : ∀ q ∈ r, q.a = true → far f q.answer = W := fun q hq => ho q (List.mem_cons_of_mem _ hq)
      by_cases c : s.a = true
      · have e := ho s (List.mem_cons_self ..) c
        refine ⟨?_, ?_⟩ <;> unfold ansOf <;> rw [if_pos c]
        · rw [e]; exact hlo
        · rw [e]; exact ih hr _ (Nat.le_refl _) trivial
      · refine ⟨?_, ?_⟩ <;> unfold ansOf <;> rw [if_neg c]
        · exact Nat.le_refl _
        · exact ih hr _ hlo trivial
  | s :: r, lo, hl, hlo, hf => by
    obtain ⟨h1, h2⟩ := hf
    refine ⟨h1, Fifo.app ho (fun q hq => hl q (List.mem_cons_of_mem _ hq)) ?_ h2⟩
    unfold ansOf
    split
    · rename_i c; exact hl s (List.mem_cons_self ..) c
    · exact hlo
def Timed (w : Wd) : Prop := ∀ x tl, w.talk x = some tl → tl.last = w.now
/-- what holds while all comes -/
structure Run (w : Wd) : Prop where
  inv : WInv w
  timed : Timed w
  noc : ∀ x, ∀ s ∈ w.road x, s.c = false
  fifo : ∀ x, Fifo (w.first x) (w.T x).g.passed (w.road x)
theorem at_self {tl : Tl} {n : Nat} (h : tl.last = n) : tl.at_ n = tl := by
  unfold Tl.at_
  rw [← h]
/-- one that stands on the road comes: what the world is then -/
theorem come_T {w : Wd} {x : Bool} {s : Sg} {r : List Sg} {tl : Tl} (h : w.talk x = some tl) : (({ w with road := put w.road x r } : Wd).come x s).T = put w.T x (tl.heard s w.now) ∧
    (({ w with road := put w.road x r } : Wd).come x s).road = put (put w.road x r) (!x) (w.road (!x) ++ tl.heardOut s w.now) ∧
    (({ w with road := put w.road x r } : Wd).come x s).talk = put w.talk x (some (tl.heard s w.now)) ∧ (({ w with road := put w.road x r } : Wd).come x s).now = w.now ∧
    (({ w with road := put w.road x r } : Wd).come x s).first = w.first ∧ (({ w with road := put w.road x r } : Wd).come x s).wrote = w.wrote ∧ (({ w with road := put w.road x r } : Wd).come x s).has = w.has := by
  have e : (({ w with road := put w.road x r } : Wd).come x s) = (({ w with road := put w.road x r } : Wd).seen s).upd x (tl.heard s w.now) (tl.heardOut s w.now) := come_some (w := { w with road := put w.road x r }) h s
  refine ⟨?_, ?_, ?_, ?_, ?_, ?_, ?_⟩ <;> rw [e]
  · exact T_put rfl rfl rfl
  · show put (put w.road x r) (!x) (put w.road x r (!x) ++ _) = _
    rw [put_not]
  all_goals rfl
theorem last_heard (tl : Tl) (s : Sg) (n : Nat) : (tl.heard s n).last = n := by
  unfold Tl.heard
  split
  · split <;> rfl
  · unfold Tl.counted Tl.rest Tl.hearA Tl.heard1 Tl.takes Tl.begin
    split <;> split <;> rfl
  · rfl
theorem reply_noc (tl : Tl) (s : Sg) : ∀ q ∈ tl.reply s, q.c = false ∧ q.a = true ∧ q.answer = (match tl.t with | none => 0 | some t => t.wanted) ∧ q.room = (match tl.t with | none => 0 | some t => t.free) := fun q hq => by
  unfold Tl.reply at hq
  split at hq
  · have hq := List.mem_singleton.mp hq
    subst hq
    exact ⟨rfl, rfl, rfl, rfl⟩
  · cases hq
/-- what x tells at once, and how far its taker is -/
theorem heardOut_ans {w : Wd} (I : WInv w) (x : Bool) {s : Sg} (hs : SegIn w w.T x s) {tl : Tl} (h : w.talk x = some tl) :
    ∀ q ∈ tl.heardOut s w.now, q.c = false ∧ q.a = true ∧ far (w.first !x) q.answer = wof (w.first !x) (tl.heard s w.now).t := fun q hq => by
  have hb := I.pair.nobad x hs w.now
  have hp := I.pair.heard x hs
  rw [T_some h] at hb hp
  unfold Tl.heardOut at hq
  unfold Tl.heard
  cases hway : (tl.at_ w.now).way s with
  | bad => exact absurd hway hb
  | counts =>
    rw [hway] at hq
    obtain ⟨h1, h2, h3, _⟩ := reply_noc _ _ q hq
    refine ⟨h1, h2, ?_⟩
    rw [h3]
    show far _ _ = wof _ (((tl.at_ w.now).heard1 s).counted s w.now).t
    have ht : (((tl.at_ w.now).heard1 s).counted s w.now).t ≠ none := by
      obtain ⟨_, _, _, c4⟩ := way_counts hway
      have : ((tl.at_ w.now).heard1 s).t ≠ none := by
        unfold Tl.heard1
        split
        · exact fun e => nomatch e
        · rename_i q; intro e; rw [e] at q; exact q rfl
      unfold Tl.counted Tl.rest Tl.hearA Tl.takes
      split
      · show (((tl.at_ w.now).heard1 s).t).map _ ≠ none
        intro e
        exact this (Option.map_eq_none_iff.mp e)
      · exact this
    obtain ⟨t, e⟩ := Option.ne_none_iff_exists'.mp ht
    rw [e]
    rfl
  | dead => rw [hway] at hq; cases hq
  | drop => rw [hway] at hq; cases hq
  | early => rw [hway] at hq; cases hq
  | cuts => rw [hway] at hq; cases hq
/-- how the giver goes on: not at all, or by a heard answer -/
theorem heard_g (tl : Tl) (s : Sg) (n : Nat) : (tl.heard s n).g = tl.g ∨ ((tl.heard s n).g = tl.g.heard s.answer s.room n ∧ s.a = true) := by
  unfold Tl.heard
  cases hway : (tl.at_ n).way s with
  | bad => exact .inl rfl
  | dead => exact .inl rfl
  | drop => exact .inl rfl
  | early => exact .inl rfl
  | cuts => left; show (if _ then _ else _ : Tl).g = _; split <;> rfl
  | counts =>
    show (((tl.at_ n).heard1 s).counted s n).g = _ ∨ (((tl.at_ n).heard1 s).counted s n).g = _ ∧ _
    have e1 : ((tl.at_ n).heard1 s).g = tl.g := by unfold Tl.heard1 Tl.begin Tl.at_; split <;> rfl
    unfold Tl.counted Tl.rest Tl.hearA Tl.takes
    cases ha : s.a with
    | false => left; exact e1
    | true => right; exact ⟨by show ((tl.at_ n).heard1 s).g.heard _ _ _ = _; rw [e1], rfl⟩
theorem wof_mono {w : Wd} (I : WInv w) (x : Bool) {s : Sg} (hs : SegIn w w.T x s) {tl : Tl} (h : w.talk x = some tl) : wof (w.first !x) tl.t ≤ wof (w.first !x) (tl.heard s w.now).t := by
  unfold Tl.heard
  cases hway : (tl.at_ w.now).way s with
  | bad => exact Nat.le_refl _
  | dead => exact Nat.le_refl _
  | drop => exact Nat.le_refl _
  | early => exact Nat.le_refl _
  | cuts => show _ ≤ wof _ (if _ then _ else _ : Tl).t; split <;> exact Nat.le_refl _
  | counts =>
    show _ ≤ wof _ (((tl.at_ w.now).heard1 s).counted s w.now).t
    obtain ⟨_, _, c3, c4⟩ := way_counts hway
    unfold Tl.counted Tl.rest Tl.hearA Tl.takes
    cases ht : tl.t with
    | none => exact Nat.zero_le _
    | some t =>
      have e1 : ((tl.at_ w.now).heard1 s).t = some t := by
        unfold Tl.heard1
        have : (tl.at_ w.now).t = some t := ht
        rw [this]
        exact this
      cases ha : s.a with
      | false =>
        show _ ≤ wof _ ((tl.at_ w.now).heard1 s).t
        rw [e1]
        exact Nat.le_refl _
      | true =>
        show _ ≤ wof _ ((((tl.at_ w.now).heard1 s).t).map _)
        rw [e1]
        obtain ⟨i1, i2⟩ := hs.it c3
        exact (((I.pair.t x (by rw [T_some h]; exact ht)).takes s.number hs.num s.items i2 i1)).2
theorem Run.come {w : Wd} (R : Run w) {x : Bool} {s : Sg} {r : List Sg} (hr : w.road x = s :: r) : Run (({ w with road := put w.road x r } : Wd).come x s) := by
  have hs : s ∈ w.road x := by rw [hr]; exact List.mem_cons_self ..
  have hin := R.inv.pair.seg hs
  have hI : WInv (({ w with road := put w.road x r } : Wd).come x s) := R.inv.comes x hs fun q hq => by rw [hr]; exact List.mem_cons_of_mem _ hq
  have hf := R.fifo x
  rw [hr] at hf
  obtain ⟨f1, f2⟩ := hf
  cases h : w.talk x with
  | some tl =>
    obtain ⟨c1, c2, c3, c4, c5, _⟩ := come_T (s := s) (r := r) h
    have hT := T_some h
    have hout := heardOut_ans R.inv x hin h
    refine ⟨hI, ?_, fun y q hq => ?_, fun y => ?_⟩
    · intro y tl' e
      rw [c3] at e
      rw [c4]
      rcases eq_or_not x y with rfl | rfl
      · rw [put_same] at e
        cases e
        exact last_heard _ _ _
      · rw [put_not] at e
        exact R.timed _ _ e
    · rw [c2] at hq
      rcases eq_or_not x y with rfl | rfl
      · rw [put_not', put_same] at hq
        exact R.noc y q (by rw [hr]; exact List.mem_cons_of_mem _ hq)
      · rw [put_same] at hq
        rcases List.mem_append.mp hq with hq | hq
        · exact R.noc (!x) q hq
        · exact (hout q hq).1
    · rw [c1, c2, c5]
      rcases eq_or_not x y with rfl | rfl
      · rw [put_not', put_same, put_same]
        refine Fifo.low ?_ f2
        rw [hT] at f1 ⊢
        rcases heard_g tl s w.now with e | ⟨e, ha⟩
        · rw [e]; exact f1
        · rw [e]
          obtain ⟨a1, a2, a3⟩ := hin.an ha
          have hg := R.inv.pair.g y
          rw [hT] at hg
          have hw := R.inv.pair.core.wle y
          rw [show (w.T y).g = tl.g by rw [hT]] at hw
          have a3 : far (w.first y) s.answer ≤ wof (w.first y) (w.T !y).t := a3
          have hw : wof (w.first y) (w.T !y).t ≤ tl.g.hi := hw
          have hhi : tl.g.hi = tl.g.passed + tl.g.sent := rfl
          obtain ⟨g2, _⟩ := hg.heard_passed (room := s.room) a1 (by omega)
          rw [g2]
          have e2 : ansOf (w.first y) tl.g.passed s = far (w.first y) s.answer := by unfold ansOf; rw [if_pos ha]
          rw [e2] at f1 ⊢
          exact Nat.max_le.mpr ⟨f1, Nat.le_refl _⟩
      · rw [put_same, put_not]
        have hm := wof_mono R.inv x hin h
        refine Fifo.app (W := wof (w.first !x) (tl.heard s w.now).t) (fun q hq _ => (hout q hq).2.2) (fun q hq ha => ?_) ?_ (R.fifo !x)
        · have := ((R.inv.pair.seg hq).an ha).2.2
          rw [nn, hT] at this
          exact Nat.le_trans this hm
        · have := R.inv.pair.core.ans !x
          rw [nn] at this
          have this : (w.T !x).g.passed ≤ wof (w.first !x) (w.T x).t := this
          rw [hT] at this
          exact Nat.le_trans this hm
  | none =>
    have hx : x = true := by
      cases x with
      | true => rfl
      | false => exact absurd h R.inv.t0
    subst hx
    obtain ⟨l1, l2, l3, l4⟩ := R.inv.lone h
    have hroad : (({ w with road := put w.road true r } : Wd).come true s).road = put w.road true r := by
      have e := come_roads ({ w with road := put w.road true r } : Wd) true s
      rw [e]
      show put (put w.road true r) false (put w.road true r false ++ (match w.talk true with | some tl => _ | none => [])) = _
      rw [h, List.append_nil]
      exact put_self _ _
    have hfr : ∀ y, Fifo (w.first y) (w.T y).g.passed (put w.road true r y) := fun y => by
      cases y with
      | false => exact R.fifo false
      | true => rw [put_same]; exact Fifo.low f1 f2
    have hnc : ∀ y, ∀ q ∈ put w.road true r y, q.c = false := fun y q hq => by
      cases y with
      | false => exact R.noc false q hq
      | true => rw [put_same] at hq; exact R.noc true q (by rw [hr]; exact List.mem_cons_of_mem _ hq)
    by_cases c : s.o = true ∧ s.a = false ∧ s.c = false
    · have e : (({ w with road := put w.road true r } : Wd).come true s) = ({ w with road := put w.road true r } : Wd).bear s := come_begin (w := { w with road := put w.road true r }) h c
      have hT : (({ w with road := put w.road true r } : Wd).bear s).T = put w.T true (.new (w.port true) (w.port false) (w.first true) w.now (some s.number)) := T_put rfl rfl rfl
      have hph : w.T true = w.ph := by unfold Wd.T; rw [h]
      refine ⟨hI, ?_, ?_, ?_⟩
      · rw [e]
        intro y tl' e'
        cases y with
        | false => exact R.timed false tl' e'
        | true =>
          have e' : put w.talk true (some (Tl.new (w.port true) (w.port false) (w.first true) w.now (some s.number))) true = some tl' := e'
          rw [put_same] at e'
          cases e'
          rfl
      · rw [hroad]; exact hnc
      · rw [hroad, e, hT]
        intro y
        have := hfr y
        cases y with
        | false => exact this
        | true =>
          rw [hph] at this
          rw [put_same]
          rw [put_same] at this ⊢
          exact this
    · have e : (({ w with road := put w.road true r } : Wd).come true s) = ({ w with road := put w.road true r } : Wd).seen s := come_none (w := { w with road := put w.road true r }) h c
      have hT : (({ w with road := put w.road true r } : Wd).seen s).T = w.T := T_keep rfl rfl rfl
      refine ⟨hI, ?_, ?_, ?_⟩
      · rw [e]; exact R.timed
      · rw [hroad]; exact hnc
      · rw [hroad, e, hT]
        exact hfr
/-- so many comings -/
noncomputable def Wd.run : Nat → Wd → Wd
  | 0, w => w
  | k + 1, w => (Wd.run k w).step
/-- what each coming keeps, all comings keep -/
theorem run_ind {P : Wd → Prop} (h : ∀ w x s r, Run w → w.road x = s :: r → (x = true → w.road false = []) → P w → P (({ w with road := put w.road x r } : Wd).come x s)) : ∀ (k : Nat) {w : Wd}, Run w → P w → Run (w.run k) ∧ P (w.run k)
  | 0, w, R, p => ⟨R, p⟩
  | k + 1, w, R, p => by
    obtain ⟨R1, p1⟩ := run_ind h k R p
    show Run (w.run k).step ∧ P (w.run k).step
    unfold Wd.step
    cases e : (w.run k).road false with
    | cons s r => exact ⟨R1.come e, h _ false s r R1 e (fun q => nomatch q) p1⟩
    | nil =>
      cases e2 : (w.run k).road true with
      | cons s r => exact ⟨R1.come e2, h _ true s r R1 e2 (fun _ => e) p1⟩
      | nil => exact ⟨R1, p1⟩
end SW
end
section
/-! What each coming keeps, and where it leads. -/
namespace SW
section
variable {w : Wd}
theorem Run.T (R : Run w) {x : Bool} {tl : Tl} (h : w.talk x = some tl) : w.T x = tl ∧ tl.at_ w.now = tl := ⟨T_some h, at_self (R.timed x tl h)⟩
theorem way_dead {tl : Tl} {s : Sg} (h : tl.isOver = true) : tl.way s = .dead := by unfold Tl.way; rw [if_pos h]
theorem Run.heard_over (R : Run w) {x : Bool} {s : Sg} {tl : Tl} (h : w.talk x = some tl) (ho : tl.isOver = true) : tl.heard s w.now = tl ∧ tl.heardOut s w.now = [] := by
  obtain ⟨_, e⟩ := R.T h
  unfold Tl.heard Tl.heardOut
  rw [e, way_dead ho]
  exact ⟨rfl, rfl⟩
/-- an answer on the road counts -/
theorem Run.isAnswer (R : Run w) {x : Bool} {s : Sg} {r : List Sg} (hr : w.road x = s :: r) (ha : s.a = true) : (w.T x).g.passed ≤ far (w.first x) s.answer ∧ (w.T x).isAnswer s.answer = true := by
  have hs : s ∈ w.road x := by rw [hr]; exact List.mem_cons_self ..
  have hin := R.inv.pair.seg hs
  have hf := R.fifo x
  rw [hr] at hf
  have f1 := hf.1
  unfold ansOf at f1
  rw [if_pos ha] at f1
  refine ⟨f1, ?_⟩
  by_cases hz : (w.T x).g.passed = 0
  · exact R.inv.pair.notbad x hin ha hz
  · obtain ⟨a1, a2, a3⟩ := hin.an ha
    have hg := R.inv.pair.g x
    have hw : wof (w.first x) (w.T !x).t ≤ (w.T x).g.hi := R.inv.pair.core.wle x
    have hhi : (w.T x).g.hi = (w.T x).g.passed + (w.T x).g.sent := rfl
    have e0 : moved (w.T x).first (w.T x).g.passed = (w.T x).g.base := by rw [(R.inv.pair.ok x).fst, hg.base]
    have e1 := hg.far_ans a1 (by omega)
    rw [if_pos f1] at e1
    have e2 : far (w.T x).g.base (w.T x).g.next = (w.T x).g.sent := by
      have hb := hg.hwlt
      have e3 : far (w.first x) (w.T x).g.next = (w.T x).g.passed + (w.T x).g.sent := by rw [hg.next, far_moved hg.fl hb]
      have := hg.fbase
      have e4 : (w.T x).g.next < 4294967296 := by rw [hg.next]; exact moved_lt _ _
      rw [far_up hg.fl hg.basel e4 (by rw [e3]; omega), e3]
      omega
    unfold Tl.isAnswer
    rw [e0, e1, e2, if_neg (by omega)]
    unfold Tl.isOpen
    simp [Nat.pos_of_ne_zero hz]
theorem Run.counts (R : Run w) {x : Bool} {s : Sg} {r : List Sg} {tl : Tl} (hr : w.road x = s :: r) (h : w.talk x = some tl) (ho : tl.isOver = false) (ha : s.a = true) (ht : tl.t ≠ none ∨ s.o = true) : tl.way s = .counts := by
  have hs : s ∈ w.road x := by rw [hr]; exact List.mem_cons_self ..
  obtain ⟨_, h2⟩ := R.isAnswer hr ha
  rw [T_some h] at h2
  have hc := R.noc x s hs
  unfold Tl.way
  rw [if_neg (by rw [ho]; decide), if_neg (by rw [h2]; simp), if_neg (by rw [hc]; decide), if_neg ?_]
  rintro ⟨q1, q2⟩
  rcases ht with ht | ht
  · cases e : tl.t with
    | none => exact ht e
    | some t => rw [e] at q1; cases q1
  · rw [ht, ha] at q2
    rcases q2 with q | q <;> cases q
theorem counted_t (tl : Tl) (s : Sg) (n : Nat) : (tl.counted s n).t = if s.a = true then tl.t.map (fun t => t.takes s.number s.items) else tl.t := by
  unfold Tl.counted Tl.hearA
  split <;> rfl
theorem counted_g (tl : Tl) (s : Sg) (n : Nat) : (tl.counted s n).g = if s.a = true then tl.g.heard s.answer s.room n else tl.g := by
  unfold Tl.counted Tl.hearA
  split <;> rfl
theorem heard1_t (tl : Tl) (s : Sg) : (tl.heard1 s).t = some (match tl.t with | some t => t | none => .new (moved s.number 1)) := by
  unfold Tl.heard1
  cases e : tl.t with
  | none => rfl
  | some t => exact e
theorem heard1_g (tl : Tl) (s : Sg) : (tl.heard1 s).g = tl.g := by
  unfold Tl.heard1
  split <;> rfl
/-- what x is behind a counting answer, and what it tells -/
theorem Run.hears (R : Run w) {x : Bool} {s : Sg} {r : List Sg} {tl : Tl} (hr : w.road x = s :: r) (h : w.talk x = some tl) (ho : tl.isOver = false) (ha : s.a = true) (ht : tl.t ≠ none ∨ s.o = true) :
    (tl.heard s w.now).g = tl.g.heard s.answer s.room w.now ∧ (tl.heard s w.now).t = some ((match tl.t with | some t => t | none => .new (moved s.number 1)).takes s.number s.items) ∧
    tl.heardOut s w.now = (tl.heard s w.now).reply s := by
  obtain ⟨_, e⟩ := R.T h
  have hway := R.counts hr h ho ha ht
  have e1 : tl.heard s w.now = (tl.heard1 s).counted s w.now := by unfold Tl.heard; rw [e, hway]
  have e2 : tl.heardOut s w.now = ((tl.heard1 s).counted s w.now).reply s := by unfold Tl.heardOut; rw [e, hway]
  rw [e2, e1]
  refine ⟨?_, ?_, rfl⟩
  · rw [counted_g, heard1_g, if_pos ha]
  · rw [counted_t, heard1_t, if_pos ha]
    rfl
theorem reply_mem {tl : Tl} {s : Sg} (h : s.items ≠ [] ∨ s.q = true) : tl.made true false false false false tl.g.next [] ∈ tl.reply s := by
  unfold Tl.reply
  rw [if_pos h]
  exact List.mem_singleton.mpr rfl
theorem Run.passed_le (R : Run w) {x : Bool} {s : Sg} {r : List Sg} {tl : Tl} (hr : w.road x = s :: r) (h : w.talk x = some tl) : tl.g.passed ≤ (tl.heard s w.now).g.passed ∧ (tl.heard s w.now).g.hi = tl.g.hi ∧ (tl.heard s w.now).g.fin = tl.g.fin := by
  have hs : s ∈ w.road x := by rw [hr]; exact List.mem_cons_self ..
  have hin := R.inv.pair.seg hs
  rcases heard_g tl s w.now with e | ⟨e, ha⟩
  · rw [e]; exact ⟨Nat.le_refl _, rfl, rfl⟩
  · rw [e]
    obtain ⟨a1, a2, a3⟩ := hin.an ha
    have hg := R.inv.pair.g x
    have hw : wof (w.first x) (w.T !x).t ≤ (w.T x).g.hi := R.inv.pair.core.wle x
    rw [T_some h] at hg hw
    have hhi : tl.g.hi = tl.g.passed + tl.g.sent := rfl
    obtain ⟨g2, g3, g4⟩ := hg.heard_passed (room := s.room) a1 (by omega)
    exact ⟨by rw [g2]; exact Nat.le_max_left .., g3, g4⟩
theorem t_stays (tl : Tl) (s : Sg) (n : Nat) (h : tl.t ≠ none) : (tl.heard s n).t ≠ none := by
  obtain ⟨t, ht⟩ := Option.ne_none_iff_exists'.mp h
  unfold Tl.heard
  split
  · split
    · exact h
    · exact h
  · unfold Tl.counted Tl.rest Tl.hearA Tl.heard1 Tl.takes Tl.at_
    simp only [ht]
    split <;> simp
  · exact h
theorem both_talk (R : Run w) (hb : w.talk true ≠ none) (x : Bool) : w.talk x = some (w.T x) := by
  cases x with
  | false => exact R.inv.talk0
  | true => exact talk_T hb
/-- a coming where both are there -/
theorem come_both (R : Run w) (hb : w.talk true ≠ none) {z : Bool} {s : Sg} {r : List Sg} (hr : w.road z = s :: r) :
    (({ w with road := put w.road z r } : Wd).come z s).T = put w.T z ((w.T z).heard s w.now) ∧
    (({ w with road := put w.road z r } : Wd).come z s).road = put (put w.road z r) (!z) (w.road (!z) ++ (w.T z).heardOut s w.now) ∧
    (({ w with road := put w.road z r } : Wd).come z s).talk true ≠ none ∧ (({ w with road := put w.road z r } : Wd).come z s).now = w.now ∧
    (({ w with road := put w.road z r } : Wd).come z s).first = w.first ∧ (({ w with road := put w.road z r } : Wd).come z s).wrote = w.wrote ∧ (({ w with road := put w.road z r } : Wd).come z s).has = w.has := by
  obtain ⟨c1, c2, c3, c4, c5, c6, c7⟩ := come_T (s := s) (r := r) (both_talk R hb z)
  exact ⟨c1, c2, by rw [c3]; exact put_isSome hb, c4, c5, c6, c7⟩
/-- what is unread, and how far -/
def Unr (f p0 : Nat) : Option Tk → Prop
  | some t => t.unread.length + p0 ≤ far f t.wanted
  | none => p0 = 0
theorem Run.unr (R : Run w) {y : Bool} {s : Sg} {r : List Sg} (hb : w.talk true ≠ none) (hr : w.road y = s :: r) {p0 : Nat} (h : Unr (w.first !y) p0 (w.T y).t) : Unr (w.first !y) p0 ((w.T y).heard s w.now).t := by
  have hs : s ∈ w.road y := by rw [hr]; exact List.mem_cons_self ..
  have hin := R.inv.pair.seg hs
  have ht := both_talk R hb y
  obtain ⟨_, e⟩ := R.T ht
  have hf := (R.inv.pair.g !y).fl
  unfold Tl.heard
  rw [e]
  cases hway : (w.T y).way s with
  | bad => exact h
  | dead => exact h
  | drop => exact h
  | early => exact h
  | cuts => show Unr _ _ (if _ then _ else _ : Tl).t; split <;> exact h
  | counts =>
    obtain ⟨_, _, c3, c4⟩ := way_counts hway
    show Unr _ _ (((w.T y).heard1 s).counted s w.now).t
    rw [counted_t, heard1_t]
    obtain ⟨i1, i2⟩ := hin.it c3
    cases q : (w.T y).t with
    | none =>
      rw [q] at h
      have h : p0 = 0 := h
      subst h
      obtain ⟨b1, b2⟩ := c4 q
      obtain ⟨n1, n2⟩ := hin.first_of hf c3 b1
      rw [if_pos b2]
      have hT : TInv (w.first !y) (w.wrote !y) (w.T !y).g.fin (w.T !y).g.hi [] (.new (moved (w.first !y) 1)) := TInv.start hf (R.inv.pair.g !y).len n2 (R.inv.pair.g !y).hwle
      have g1 := hT.takes_grow s.number hin.num s.items i2 i1
      have e1 : (Tk.new (moved (w.first !y) 1)).unread.length = 0 := rfl
      rw [e1] at g1
      show ((Tk.new (moved s.number 1)).takes s.number s.items).unread.length + 0 ≤ far (w.first !y) ((Tk.new (moved s.number 1)).takes s.number s.items).wanted
      rw [n1] at g1 ⊢
      omega
    | some t =>
      rw [q] at h
      have h : t.unread.length + p0 ≤ far (w.first !y) t.wanted := h
      have hT := R.inv.pair.t y q
      have g1 := hT.takes_grow s.number hin.num s.items i2 i1
      by_cases ha : s.a = true
      · rw [if_pos ha]
        show (t.takes s.number s.items).unread.length + p0 ≤ far (w.first !y) (t.takes s.number s.items).wanted
        omega
      · rw [if_neg ha]
        exact h
/-! ### something new is on its way -/
structure J1 (x : Bool) (p0 : Nat) (w : Wd) : Prop where
  both : w.talk true ≠ none
  tx : (w.T x).t ≠ none
  u : Unr (w.first x) p0 (w.T !x).t
  j : (w.T x).isOver = true ∨ (w.T !x).isOver = true ∨ p0 < (w.T x).g.passed ∨ (∃ s ∈ w.road x, s.a = true ∧ p0 < far (w.first x) s.answer) ∨ (∃ s ∈ w.road (!x), s.a = true ∧ far (w.first x) s.number = p0 ∧ s.items ≠ [])
theorem J1.step (x : Bool) (p0 : Nat) (w : Wd) (z : Bool) (s : Sg) (r : List Sg) (R : Run w) (hr : w.road z = s :: r) (hz : z = true → w.road false = []) (J : J1 x p0 w) : J1 x p0 (({ w with road := put w.road z r } : Wd).come z s) := by
  obtain ⟨c1, c2, c3, c4, c5, c6, c7⟩ := come_both R J.both hr
  have hs : s ∈ w.road z := by rw [hr]; exact List.mem_cons_self ..
  have hin := R.inv.pair.seg hs
  rcases eq_or_not x z with rfl | rfl
  · -- it comes to x
    have ht := both_talk R J.both z
    refine ⟨c3, ?_, ?_, ?_⟩
    · rw [c1, put_same]; exact t_stays _ _ _ J.tx
    · rw [c1, c5, put_not]; exact J.u
    · rw [c1, c2, c5, put_same, put_not, put_same, put_not', put_same]
      by_cases ho : (w.T z).isOver = true
      · left; rw [(R.heard_over ht ho).1]; exact ho
      have ho : (w.T z).isOver = false := by simpa using ho
      rcases J.j with j | j | j | ⟨q, hq, qa, qp⟩ | ⟨q, hq, hk⟩
      · rw [j] at ho; cases ho
      · exact .inr (.inl j)
      · exact .inr (.inr (.inl (Nat.lt_of_lt_of_le j (R.passed_le hr ht).1)))
      · rw [hr] at hq
        rcases List.mem_cons.mp hq with rfl | hq
        · right; right; left
          rw [(R.hears hr ht ho qa (.inl J.tx)).1]
          obtain ⟨a1, a2, a3⟩ := hin.an qa
          have hg := R.inv.pair.g z
          have hw : wof (w.first z) (w.T !z).t ≤ (w.T z).g.hi := R.inv.pair.core.wle z
          have hhi : (w.T z).g.hi = (w.T z).g.passed + (w.T z).g.sent := rfl
          rw [(hg.heard_passed (room := q.room) a1 (by omega)).1]
          exact Nat.lt_of_lt_of_le qp (Nat.le_max_right ..)
        · exact .inr (.inr (.inr (.inl ⟨q, hq, qa, qp⟩)))
      · exact .inr (.inr (.inr (.inr ⟨q, List.mem_append_left _ hq, hk⟩)))
  · -- it comes to the other
    have ht := both_talk R J.both !x
    have hu := J.u
    have hun := R.unr (y := !x) J.both hr (p0 := p0) (by rw [nn]; exact hu)
    rw [nn] at hun
    refine ⟨c3, ?_, ?_, ?_⟩
    · rw [c1, put_not']; exact J.tx
    · rw [c1, c5, put_same]; exact hun
    · rw [c1, c2, c5, put_not', put_same, nn, put_same, put_ne _ _ (ne_not x).symm, put_same]
      by_cases ho : (w.T !x).isOver = true
      · right; left; rw [(R.heard_over ht ho).1]; exact ho
      have ho : (w.T !x).isOver = false := by simpa using ho
      rcases J.j with j | j | j | ⟨q, hq, qa, qp⟩ | ⟨q, hq, qa, qn, qi⟩
      · exact .inl j
      · rw [j] at ho; cases ho
      · exact .inr (.inr (.inl j))
      · exact .inr (.inr (.inr (.inl ⟨q, List.mem_append_left _ hq, qa, qp⟩)))
      · rw [hr] at hq
        rcases List.mem_cons.mp hq with rfl | hq
        · right; right; right; left
          have hc := R.noc (!x) q hs
          obtain ⟨i1, i2⟩ := hin.it hc
          rw [nn] at i1 i2
          have hto : (w.T !x).t ≠ none ∨ q.o = true := by
            cases e : (w.T !x).t with
            | some t => left; exact fun h => nomatch h
            | none =>
              right
              rw [e] at hu
              have hp0 : p0 = 0 := hu
              cases qo : q.o with
              | true => rfl
              | false =>
                exfalso
                have h0 : q.items[0]? = some .o := by
                  rw [i2, List.getElem?_take, if_pos (List.length_pos_iff.mpr qi), List.getElem?_drop, qn, hp0]
                  rfl
                have hm := List.mem_of_getElem? h0
                unfold Sg.items at hm
                rw [qo] at hm
                rcases List.mem_append.mp hm with hm | hm
                · cases hm
                · rcases List.mem_append.mp hm with hm | hm
                  · obtain ⟨n, _, e⟩ := List.mem_map.mp hm
                    cases e
                  · split at hm
                    · cases List.mem_singleton.mp hm
                    · cases hm
          obtain ⟨k1, k2, k3⟩ := R.hears hr ht ho qa hto
          refine ⟨_, List.mem_append_right _ (by rw [k3]; exact reply_mem (.inl qi)), rfl, ?_⟩
          show p0 < far (w.first x) (if true = true then (match ((w.T !x).heard q w.now).t with | none => 0 | some t => t.wanted) else 0)
          rw [k2]
          show p0 < far (w.first x) (Tk.wanted _)
          cases e : (w.T !x).t with
          | some t =>
            rw [e] at hu
            have hu : t.unread.length + p0 ≤ far (w.first x) t.wanted := hu
            have hT := R.inv.pair.t (!x) e
            rw [nn] at hT
            exact hT.takes_key q.number hin.num qn q.items i2 i1 qi hu
          | none =>
            rw [e] at hu
            have hp0 : p0 = 0 := hu
            have qo : q.o = true := hto.resolve_left (fun h => h e)
            have hf := (R.inv.pair.g x).fl
            obtain ⟨n1, n2⟩ := hin.first_of (by rw [nn]; exact hf) hc qo
            rw [nn] at n1 n2
            have hT : TInv (w.first x) (w.wrote x) (w.T x).g.fin (w.T x).g.hi [] (.new (moved (w.first x) 1)) := TInv.start hf (R.inv.pair.g x).len n2 (R.inv.pair.g x).hwle
            have hw := (hT.takes q.number hin.num q.items i2 i1).2
            have e1 : far (w.first x) (Tk.new (moved (w.first x) 1)).wanted = 1 := far_moved hf (by omega)
            rw [e1] at hw
            rw [n1] at hw ⊢
            show p0 < far (w.first x) ((Tk.new (moved (w.first x) 1)).takes (w.first x) q.items).wanted
            omega
        · exact .inr (.inr (.inr (.inr ⟨q, hq, qa, qn, qi⟩)))
end
end SW
end
section
/-! More of what each coming keeps. -/
namespace SW
section
variable {w : Wd}
theorem GInv.heard_zero {f : Nat} {wr : List Nat} {now : Nat} {g : Gv} (I : GInv f wr now g) {ans room : Nat} (ha : ans < 4294967296) (h2 : far f ans ≤ g.passed + g.sent) (c : far f ans = g.passed) :
    (g.heard ans room now).reach = max g.reach room ∧ (g.heard ans room now).sent = g.sent ∧ (g.heard ans room now).wait = g.wait ∧ (g.heard ans room now).kept = g.kept ∧ (g.heard ans room now).tried = 0 ∧
    (g.heard ans room now).since = if (g.heard ans room now).counted = true then (match g.since with | none => some now | some s => some s) else none := by
  rw [I.heard_yes ha h2 (by omega), c, Nat.sub_self]
  obtain ⟨e1, e2, e3, e4, e5, e6, e7, e8, e9, e10⟩ := (g.got ans 0 room now).count_fields now
  refine ⟨by rw [e5]; rfl, by rw [e4]; rfl, by rw [e2]; rfl, by rw [e3]; rfl, by rw [e7]; rfl, ?_⟩
  rw [Gv.count_since, Gv.count_counted]
  rfl
theorem GInv.heard_tried0 {f : Nat} {wr : List Nat} {now : Nat} {g : Gv} (I : GInv f wr now g) {ans room : Nat} (ha : ans < 4294967296) (h2 : far f ans ≤ g.passed + g.sent) (c : g.passed ≤ far f ans) : (g.heard ans room now).tried = 0 := by
  rw [I.heard_yes ha h2 c]
  obtain ⟨_, _, _, _, _, _, e7, _⟩ := (g.got ans (far f ans - g.passed) room now).count_fields now
  rw [e7]; rfl
/-- the answer of a segment is within what was sent -/
theorem Run.ans_le (R : Run w) {x : Bool} {s : Sg} {r : List Sg} (hr : w.road x = s :: r) (ha : s.a = true) : s.answer < 4294967296 ∧ far (w.first x) s.answer ≤ (w.T x).g.passed + (w.T x).g.sent := by
  have hs : s ∈ w.road x := by rw [hr]; exact List.mem_cons_self ..
  obtain ⟨a1, a2, a3⟩ := (R.inv.pair.seg hs).an ha
  have hw : wof (w.first x) (w.T !x).t ≤ (w.T x).g.hi := R.inv.pair.core.wle x
  have hhi : (w.T x).g.hi = (w.T x).g.passed + (w.T x).g.sent := rfl
  exact ⟨a1, by omega⟩
/-! ### a question is on its way -/
structure J2 (x : Bool) (p0 : Nat) (w : Wd) : Prop where
  both : w.talk true ≠ none
  tx : (w.T x).t ≠ none
  ty : (w.T !x).t ≠ none
  hi : (w.T x).g.hi = p0
  p : (w.T x).g.passed = p0
  u : Unr (w.first x) p0 (w.T !x).t
  j : (w.T x).isOver = true ∨ (w.T !x).isOver = true ∨ 0 < (w.T x).g.reach ∨ (∃ s ∈ w.road x, s.a = true ∧ 0 < s.room) ∨ (∃ s ∈ w.road (!x), s.a = true ∧ s.q = true)
theorem J2.step (x : Bool) (p0 : Nat) (w : Wd) (z : Bool) (s : Sg) (r : List Sg) (R : Run w) (hr : w.road z = s :: r) (hz : z = true → w.road false = []) (J : J2 x p0 w) : J2 x p0 (({ w with road := put w.road z r } : Wd).come z s) := by
  obtain ⟨c1, c2, c3, c4, c5, c6, c7⟩ := come_both R J.both hr
  have hs : s ∈ w.road z := by rw [hr]; exact List.mem_cons_self ..
  have hin := R.inv.pair.seg hs
  rcases eq_or_not x z with rfl | rfl
  · have ht := both_talk R J.both z
    obtain ⟨p1, p2, p3⟩ := R.passed_le hr ht
    have hg := R.inv.pair.g z
    have hjh := J.hi
    have hjp := J.p
    have hhi : (w.T z).g.hi = (w.T z).g.passed + (w.T z).g.sent := rfl
    have hhi2 : ((w.T z).heard s w.now).g.hi = ((w.T z).heard s w.now).g.passed + ((w.T z).heard s w.now).g.sent := rfl
    have hreach : 0 < (w.T z).g.reach → 0 < ((w.T z).heard s w.now).g.reach := fun h => by
      rcases heard_g (w.T z) s w.now with e | ⟨e, ha⟩
      · rw [e]; exact h
      · obtain ⟨a1, a2⟩ := R.ans_le hr ha
        have a3 := (R.isAnswer hr ha).1
        rw [e, (hg.heard_zero (room := s.room) a1 a2 (by omega)).1]
        omega
    refine ⟨c3, ?_, ?_, ?_, ?_, ?_, ?_⟩
    · rw [c1, put_same]; exact t_stays _ _ _ J.tx
    · rw [c1, put_not]; exact J.ty
    · rw [c1, put_same, p2]; exact J.hi
    · rw [c1, put_same]; omega
    · rw [c1, c5, put_not]; exact J.u
    · rw [c1, c2, put_same, put_not, put_same, put_not', put_same]
      by_cases ho : (w.T z).isOver = true
      · left; rw [(R.heard_over ht ho).1]; exact ho
      have ho : (w.T z).isOver = false := by simpa using ho
      rcases J.j with j | j | j | ⟨q, hq, qa, qr⟩ | ⟨q, hq, hk⟩
      · rw [j] at ho; cases ho
      · exact .inr (.inl j)
      · exact .inr (.inr (.inl (hreach j)))
      · rw [hr] at hq
        rcases List.mem_cons.mp hq with rfl | hq
        · right; right; left
          rw [(R.hears hr ht ho qa (.inl J.tx)).1]
          obtain ⟨a1, a2⟩ := R.ans_le hr qa
          have a3 := (R.isAnswer hr qa).1
          rw [(hg.heard_zero (room := q.room) a1 a2 (by omega)).1]
          omega
        · exact .inr (.inr (.inr (.inl ⟨q, hq, qa, qr⟩)))
      · exact .inr (.inr (.inr (.inr ⟨q, List.mem_append_left _ hq, hk⟩)))
  · have ht := both_talk R J.both !x
    have hu := J.u
    have hun := R.unr (y := !x) J.both hr (p0 := p0) (by rw [nn]; exact hu)
    rw [nn] at hun
    have R' := R.come hr
    refine ⟨c3, ?_, ?_, ?_, ?_, ?_, ?_⟩
    · rw [c1, put_not']; exact J.tx
    · rw [c1, put_same]; exact t_stays _ _ _ J.ty
    · rw [c1, put_not']; exact J.hi
    · rw [c1, put_not']; exact J.p
    · rw [c1, c5, put_same]; exact hun
    · have hwle := R'.inv.pair.core.wle x
      rw [c1, c5] at hwle
      have hwle : wof (w.first x) (put w.T (!x) ((w.T !x).heard s w.now) !x).t ≤ (put w.T (!x) ((w.T !x).heard s w.now) x).g.hi := hwle
      rw [put_same, put_not', J.hi] at hwle
      rw [c1, c2, put_not', put_same, nn, put_same, put_ne _ _ (ne_not x).symm, put_same]
      by_cases ho : (w.T !x).isOver = true
      · right; left; rw [(R.heard_over ht ho).1]; exact ho
      have ho : (w.T !x).isOver = false := by simpa using ho
      rcases J.j with j | j | j | ⟨q, hq, qa, qp⟩ | ⟨q, hq, qa, qq⟩
      · exact .inl j
      · rw [j] at ho; cases ho
      · exact .inr (.inr (.inl j))
      · exact .inr (.inr (.inr (.inl ⟨q, List.mem_append_left _ hq, qa, qp⟩)))
      · rw [hr] at hq
        rcases List.mem_cons.mp hq with rfl | hq
        · right; right; right; left
          obtain ⟨k1, k2, k3⟩ := R.hears hr ht ho qa (.inl J.ty)
          refine ⟨_, List.mem_append_right _ (by rw [k3]; exact reply_mem (.inr qq)), rfl, ?_⟩
          show 0 < (if true = true then (match ((w.T !x).heard q w.now).t with | none => 0 | some t => t.free) else 0)
          obtain ⟨t', ht'⟩ : ∃ t', ((w.T !x).heard q w.now).t = some t' := ⟨_, k2⟩
          rw [ht'] at hun hwle ⊢
          have hun : t'.unread.length + p0 ≤ far (w.first x) t'.wanted := hun
          have hwle : far (w.first x) t'.wanted ≤ p0 := hwle
          show 0 < 128 - t'.unread.length
          omega
        · exact .inr (.inr (.inr (.inr ⟨q, hq, qa, qq⟩)))
/-! ### nothing went again -/
structure J3 (x : Bool) (p0 s0 w0 : Nat) (w : Wd) : Prop where
  tk : w.talk x = some (w.T x)
  p : p0 ≤ (w.T x).g.passed
  k : p0 < slen (w.wrote x) (w.T x).g.fin
  j : p0 < (w.T x).g.passed ∨ ((w.T x).g.sent = 0 ∧ 0 < (w.T x).g.reach) ∨ ((w.T x).g.since = some s0 ∧ (w.T x).g.wait = w0)
theorem come_now (w : Wd) (x : Bool) (s : Sg) : (w.come x s).now = w.now ∧ (w.come x s).first = w.first ∧ (w.come x s).wrote = w.wrote ∧ (w.come x s).has = w.has := by
  unfold Wd.come
  split
  · exact ⟨rfl, rfl, rfl, rfl⟩
  · split <;> exact ⟨rfl, rfl, rfl, rfl⟩
/-- a coming to the other leaves x as it is, where both or x alone are there -/
theorem come_other (R : Run w) {x : Bool} (htx : w.talk x ≠ none) {s : Sg} {r : List Sg} (hr : w.road (!x) = s :: r) : (({ w with road := put w.road (!x) r } : Wd).come (!x) s).T x = w.T x ∧ (({ w with road := put w.road (!x) r } : Wd).come (!x) s).talk x = w.talk x := by
  cases h : w.talk (!x) with
  | some tl =>
    obtain ⟨c1, _, c3, _⟩ := come_T (s := s) (r := r) h
    exact ⟨by rw [c1, put_not'], by rw [c3, put_not']⟩
  | none =>
    have hx : x = false := by
      cases x with
      | false => rfl
      | true => exact absurd h R.inv.t0
    subst hx
    have hn : w.talk true = none := h
    by_cases c : s.o = true ∧ s.a = false ∧ s.c = false
    · have e : (({ w with road := put w.road true r } : Wd).come true s) = ({ w with road := put w.road true r } : Wd).bear s := come_begin (w := { w with road := put w.road true r }) hn c
      constructor
      · show (({ w with road := put w.road true r } : Wd).come true s).T false = _
        rw [e]; rfl
      · show (({ w with road := put w.road true r } : Wd).come true s).talk false = _
        rw [e]; rfl
    · have e : (({ w with road := put w.road true r } : Wd).come true s) = ({ w with road := put w.road true r } : Wd).seen s := come_none (w := { w with road := put w.road true r }) hn c
      constructor
      · show (({ w with road := put w.road true r } : Wd).come true s).T false = _
        rw [e]; rfl
      · show (({ w with road := put w.road true r } : Wd).come true s).talk false = _
        rw [e]; rfl
theorem J3.step (x : Bool) (p0 s0 w0 : Nat) (w : Wd) (z : Bool) (s : Sg) (r : List Sg) (R : Run w) (hr : w.road z = s :: r) (hz : z = true → w.road false = []) (J : J3 x p0 s0 w0 w) : J3 x p0 s0 w0 (({ w with road := put w.road z r } : Wd).come z s) := by
  have hs : s ∈ w.road z := by rw [hr]; exact List.mem_cons_self ..
  have hwr : (({ w with road := put w.road z r } : Wd).come z s).wrote = w.wrote := (come_now _ _ _).2.2.1
  rcases eq_or_not x z with rfl | rfl
  · obtain ⟨c1, _, c3, _⟩ := come_T (s := s) (r := r) J.tk
    obtain ⟨p1, p2, p3⟩ := R.passed_le hr J.tk
    have hg := R.inv.pair.g z
    refine ⟨by rw [c1, c3, put_same, put_same], ?_, ?_, ?_⟩
    · rw [c1, put_same]; exact Nat.le_trans J.p p1
    · rw [c1, put_same, hwr, p3]; exact J.k
    · rw [c1, put_same]
      by_cases hp : p0 < (w.T z).g.passed
      · exact .inl (Nat.lt_of_lt_of_le hp p1)
      have hp : (w.T z).g.passed = p0 := by have := J.p; omega
      rcases heard_g (w.T z) s w.now with e | ⟨e, ha⟩
      · rw [e]; exact J.j
      · obtain ⟨a1, a2⟩ := R.ans_le hr ha
        have a3 := (R.isAnswer hr ha).1
        rw [e]
        by_cases hq : far (w.first z) s.answer = (w.T z).g.passed
        · obtain ⟨z1, z2, z3, z4, z5, z6⟩ := hg.heard_zero (room := s.room) a1 a2 hq
          right
          by_cases hN : (w.T z).g.sent = 0 ∧ 0 < ((w.T z).g.heard s.answer s.room w.now).reach
          · left; rw [z2]; exact hN
          have hkl : 0 < (w.T z).g.kept.length := by rw [hg.klen]; have := J.k; omega
          have hcount : ((w.T z).g.heard s.answer s.room w.now).counted = true := by
            unfold Gv.counted
            rw [z2, z4]
            simp only [Bool.or_eq_true, Bool.and_eq_true, decide_eq_true_eq]
            by_cases q0 : (w.T z).g.sent = 0
            · right
              refine ⟨hkl, ?_⟩
              by_cases q1 : 0 < ((w.T z).g.heard s.answer s.room w.now).reach
              · exact absurd ⟨q0, q1⟩ hN
              · omega
            · left; omega
          rcases J.j with j | j | ⟨j1, j2⟩
          · omega
          · exact absurd ⟨j.1, by rw [z1]; have := j.2; omega⟩ hN
          · right
            rw [z6, if_pos hcount, j1, z3]
            exact ⟨rfl, j2⟩
        · left
          rw [(hg.heard_passed (room := s.room) a1 a2).1]
          omega
  · obtain ⟨o1, o2⟩ := come_other R (by rw [J.tk]; exact fun h => nomatch h) hr
    refine ⟨by rw [o1, o2]; exact J.tk, by rw [o1]; exact J.p, by rw [o1, hwr]; exact J.k, by rw [o1]; exact J.j⟩
/-! ### tries come to nought -/
structure J4 (x : Bool) (w : Wd) : Prop where
  both : w.talk true ≠ none
  tx : (w.T x).t ≠ none
  ty : (w.T !x).t ≠ none
  j : (w.T x).isOver = true ∨ (w.T !x).isOver = true ∨ (w.T x).g.tried = 0 ∨ (∃ s ∈ w.road x, s.a = true) ∨ (∃ s ∈ w.road (!x), s.a = true ∧ (s.items ≠ [] ∨ s.q = true))
theorem J4.step (x : Bool) (w : Wd) (z : Bool) (s : Sg) (r : List Sg) (R : Run w) (hr : w.road z = s :: r) (hz : z = true → w.road false = []) (J : J4 x w) : J4 x (({ w with road := put w.road z r } : Wd).come z s) := by
  obtain ⟨c1, c2, c3, c4, c5, c6, c7⟩ := come_both R J.both hr
  have hs : s ∈ w.road z := by rw [hr]; exact List.mem_cons_self ..
  rcases eq_or_not x z with rfl | rfl
  · have ht := both_talk R J.both z
    have hg := R.inv.pair.g z
    refine ⟨c3, ?_, ?_, ?_⟩
    · rw [c1, put_same]; exact t_stays _ _ _ J.tx
    · rw [c1, put_not]; exact J.ty
    · rw [c1, c2, put_same, put_not, put_same, put_not', put_same]
      by_cases ho : (w.T z).isOver = true
      · left; rw [(R.heard_over ht ho).1]; exact ho
      have ho : (w.T z).isOver = false := by simpa using ho
      rcases J.j with j | j | j | ⟨q, hq, qa⟩ | ⟨q, hq, hk⟩
      · rw [j] at ho; cases ho
      · exact .inr (.inl j)
      · right; right; left
        rcases heard_g (w.T z) s w.now with e | ⟨e, ha⟩
        · rw [e]; exact j
        · rw [e]
          have := Gv.heard_tried (w.T z).g s.answer s.room w.now
          omega
      · rw [hr] at hq
        rcases List.mem_cons.mp hq with rfl | hq
        · right; right; left
          rw [(R.hears hr ht ho qa (.inl J.tx)).1]
          obtain ⟨a1, a2⟩ := R.ans_le hr qa
          exact hg.heard_tried0 (room := q.room) a1 a2 (R.isAnswer hr qa).1
        · exact .inr (.inr (.inr (.inl ⟨q, hq, qa⟩)))
      · exact .inr (.inr (.inr (.inr ⟨q, List.mem_append_left _ hq, hk⟩)))
  · have ht := both_talk R J.both !x
    refine ⟨c3, ?_, ?_, ?_⟩
    · rw [c1, put_not']; exact J.tx
    · rw [c1, put_same]; exact t_stays _ _ _ J.ty
    · rw [c1, c2, put_not', put_same, nn, put_same, put_ne _ _ (ne_not x).symm, put_same]
      by_cases ho : (w.T !x).isOver = true
      · right; left; rw [(R.heard_over ht ho).1]; exact ho
      have ho : (w.T !x).isOver = false := by simpa using ho
      rcases J.j with j | j | j | ⟨q, hq, qa⟩ | ⟨q, hq, qa, qi⟩
      · exact .inl j
      · rw [j] at ho; cases ho
      · exact .inr (.inr (.inl j))
      · exact .inr (.inr (.inr (.inl ⟨q, List.mem_append_left _ hq, qa⟩)))
      · rw [hr] at hq
        rcases List.mem_cons.mp hq with rfl | hq
        · right; right; right; left
          obtain ⟨k1, k2, k3⟩ := R.hears hr ht ho qa (.inl J.ty)
          exact ⟨_, List.mem_append_right _ (by rw [k3]; exact reply_mem qi), rfl⟩
        · exact .inr (.inr (.inr (.inr ⟨q, hq, qa, qi⟩)))
/-! ### an ended taker answers all -/
structure J5 (x : Bool) (p0 m : Nat) (w : Wd) : Prop where
  both : w.talk true ≠ none
  ov : (w.T !x).tover = true
  W : wof (w.first x) (w.T !x).t = m
  s : ∀ s ∈ w.road x, s.a = true → far (w.first x) s.answer = m
  p : (w.T x).g.passed = p0 ∨ (w.T x).g.passed = m
theorem heard_over_t (tl : Tl) (s : Sg) (n : Nat) {t : Tk} (ht : tl.t = some t) (ho : t.over = true) : (tl.heard s n).t = some t := by
  unfold Tl.heard
  split
  · split <;> exact ht
  · rw [counted_t, heard1_t]
    show (if s.a = true then (some (match tl.t with | some t => t | none => .new (moved s.number 1))).map _ else some (match tl.t with | some t => t | none => .new (moved s.number 1))) = _
    rw [ht]
    split
    · show some (t.takes s.number s.items) = some t
      rw [takes_over ho]
    · rfl
  · exact ht
theorem J5.step (x : Bool) (p0 m : Nat) (w : Wd) (z : Bool) (s : Sg) (r : List Sg) (R : Run w) (hr : w.road z = s :: r) (hz : z = true → w.road false = []) (J : J5 x p0 m w) : J5 x p0 m (({ w with road := put w.road z r } : Wd).come z s) := by
  obtain ⟨c1, c2, c3, c4, c5, c6, c7⟩ := come_both R J.both hr
  have hs : s ∈ w.road z := by rw [hr]; exact List.mem_cons_self ..
  rcases eq_or_not x z with rfl | rfl
  · have ht := both_talk R J.both z
    have hg := R.inv.pair.g z
    refine ⟨c3, by rw [c1, put_not]; exact J.ov, by rw [c1, c5, put_not]; exact J.W, fun q hq qa => ?_, ?_⟩
    · rw [c2, put_not', put_same] at hq
      rw [c5]
      exact J.s q (by rw [hr]; exact List.mem_cons_of_mem _ hq) qa
    · rw [c1, put_same]
      rcases heard_g (w.T z) s w.now with e | ⟨e, ha⟩
      · rw [e]; exact J.p
      · rw [e]
        obtain ⟨a1, a2⟩ := R.ans_le hr ha
        have a3 := (R.isAnswer hr ha).1
        rw [(hg.heard_passed (room := s.room) a1 a2).1]
        have := J.s s hs ha
        right
        omega
  · have ht := both_talk R J.both !x
    have hov := J.ov
    unfold Tl.tover at hov
    cases e : (w.T !x).t with
    | none => rw [e] at hov; cases hov
    | some t =>
      rw [e] at hov
      have hov : t.over = true := hov
      have e2 := heard_over_t (w.T !x) s w.now e hov
      have hW := J.W
      rw [e] at hW
      refine ⟨c3, ?_, ?_, fun q hq qa => ?_, by rw [c1, put_not']; exact J.p⟩
      · rw [c1, put_same]
        unfold Tl.tover
        rw [e2]
        exact hov
      · rw [c1, c5, put_same, e2]; exact hW
      · rw [c2, nn, put_same] at hq
        rw [c5]
        rcases List.mem_append.mp hq with hq | hq
        · exact J.s q hq qa
        · have h3 := (heardOut_ans R.inv (!x) (R.inv.pair.seg hs) ht q hq).2.2
          rw [nn, e2] at h3
          rw [h3]
          exact hW
/-! ### when it rests -/
structure J6 (x : Bool) (r0 : Option Nat) (w : Wd) : Prop where
  tk : w.talk x = some (w.T x)
  j : (w.T x).rested = r0 ∨ (r0 = none ∧ (w.T x).rested = some w.now)
theorem heard_rested (tl : Tl) (s : Sg) (n : Nat) : (tl.heard s n).rested = tl.rested ∨ (tl.rested = none ∧ (tl.heard s n).rested = some n) := by
  unfold Tl.heard
  split
  · left; split <;> rfl
  · have e : ∀ u : Tl, (u.counted s n).rested = u.rested ∨ (u.rested = none ∧ (u.counted s n).rested = some n) := fun u => by
      have e1 : (u.hearA s n).rested = u.rested := by unfold Tl.hearA; split <;> rfl
      unfold Tl.counted Tl.rest
      show (if _ then _ else _ : Option Nat) = _ ∨ (_ ∧ (if _ then _ else _ : Option Nat) = _)
      split
      · rename_i h; right; rw [← e1]; exact ⟨h.1, rfl⟩
      · left; exact e1
    have e1 : ((tl.at_ n).heard1 s).rested = tl.rested := by unfold Tl.heard1; split <;> rfl
    have := e ((tl.at_ n).heard1 s)
    rw [e1] at this
    exact this
  · exact .inl rfl
theorem J6.step (x : Bool) (r0 : Option Nat) (w : Wd) (z : Bool) (s : Sg) (r : List Sg) (R : Run w) (hr : w.road z = s :: r) (hz : z = true → w.road false = []) (J : J6 x r0 w) : J6 x r0 (({ w with road := put w.road z r } : Wd).come z s) := by
  have hnow : (({ w with road := put w.road z r } : Wd).come z s).now = w.now := (come_now _ _ _).1
  rcases eq_or_not x z with rfl | rfl
  · obtain ⟨c1, _, c3, _⟩ := come_T (s := s) (r := r) J.tk
    refine ⟨by rw [c1, c3, put_same, put_same], ?_⟩
    rw [c1, put_same, hnow]
    rcases heard_rested (w.T z) s w.now with e | ⟨e1, e2⟩
    · rw [e]; exact J.j
    · rcases J.j with j | ⟨j1, j2⟩
      · right; exact ⟨by rw [← j, e1], e2⟩
      · rw [j2] at e1; cases e1
  · obtain ⟨o1, o2⟩ := come_other R (by rw [J.tk]; exact fun h => nomatch h) hr
    exact ⟨by rw [o1, o2]; exact J.tk, by rw [o1, hnow]; exact J.j⟩
end
end SW
end
section
/-! A tick of the ending stage. -/
namespace SW
noncomputable def Wd.fins (w : Wd) : Wd := (w.finish false).finish true
noncomputable def Wd.tick (w : Wd) : Wd := w.fins.ticked 1
noncomputable def Wd.reads (w : Wd) : Wd := (w.read false 200).read true 200
structure Head (w : Wd) : Prop where
  inv : WInv w
  timed : Timed w
  empty : w.empty
  unread : ∀ x t, (w.T x).t = some t → t.unread = []
section
variable {w : Wd}
theorem finish_T (w : Wd) (x y : Bool) : (w.finish x).T y = if y = x ∧ w.talk x ≠ none then (w.T x).finish else w.T y := by
  cases h : w.talk x with
  | none =>
    rw [finish_none h, if_neg (fun q => q.2 rfl)]
  | some tl =>
    have hT : (w.finish x).T = put w.T x tl.finish := by rw [finish_some h]; exact T_put rfl rfl rfl
    rw [hT, T_some h]
    by_cases c : y = x
    · rw [if_pos ⟨c, fun q => nomatch q⟩, c, put_same]
    · rw [if_neg (fun q => c q.1), put_ne _ _ c]
theorem finish_rest (w : Wd) (x : Bool) : (w.finish x).road = w.road ∧ (w.finish x).now = w.now ∧ (w.finish x).first = w.first ∧ (w.finish x).wrote = w.wrote ∧ (w.finish x).has = w.has ∧ (∀ y, (w.finish x).talk y = none ↔ w.talk y = none) ∧ (w.finish x).cuts = w.cuts ∧ (w.finish x).port = w.port := by
  cases h : w.talk x with
  | none => rw [finish_none h]; exact ⟨rfl, rfl, rfl, rfl, rfl, fun _ => Iff.rfl, rfl, rfl⟩
  | some tl =>
    rw [finish_some h]
    refine ⟨rfl, rfl, rfl, rfl, rfl, fun y => ?_, rfl, rfl⟩
    show put w.talk x (some tl.finish) y = none ↔ _
    rcases eq_or_not x y with rfl | rfl
    · rw [put_same, h]; exact ⟨(fun q => nomatch q), (fun q => nomatch q)⟩
    · rw [put_not]
theorem due_T (w : Wd) (x y : Bool) : (w.due x).T y = if y = x ∧ w.talk x ≠ none then (w.T x).due w.now else w.T y := by
  cases h : w.talk x with
  | none => rw [due_none h, if_neg (fun q => q.2 rfl)]
  | some tl =>
    have hT : (w.due x).T = put w.T x (tl.due w.now) := by rw [due_some h]; exact T_put rfl rfl rfl
    rw [hT, T_some h]
    by_cases c : y = x
    · rw [if_pos ⟨c, fun q => nomatch q⟩, c, put_same]
    · rw [if_neg (fun q => c q.1), put_ne _ _ c]
theorem due_rest (w : Wd) (x : Bool) : (w.due x).road = put w.road (!x) (w.road (!x) ++ (if w.talk x ≠ none then (w.T x).dueOut w.now else [])) ∧ (w.due x).now = w.now ∧ (w.due x).first = w.first ∧ (w.due x).wrote = w.wrote ∧ (w.due x).has = w.has ∧ (∀ y, (w.due x).talk y = none ↔ w.talk y = none) ∧ (w.due x).cuts = w.cuts ∧ (w.due x).port = w.port := by
  cases h : w.talk x with
  | none =>
    rw [due_none h, if_neg (fun q => q rfl), List.append_nil, put_self]
    exact ⟨rfl, rfl, rfl, rfl, rfl, fun _ => Iff.rfl, rfl, rfl⟩
  | some tl =>
    rw [due_some h, if_pos (fun q => nomatch q), T_some h]
    refine ⟨rfl, rfl, rfl, rfl, rfl, fun y => ?_, rfl, rfl⟩
    show put w.talk x (some (tl.due w.now)) y = none ↔ _
    rcases eq_or_not x y with rfl | rfl
    · rw [put_same, h]; exact ⟨(fun q => nomatch q), (fun q => nomatch q)⟩
    · rw [put_not]
theorem fins_facts (w : Wd) : w.fins.road = w.road ∧ w.fins.now = w.now ∧ w.fins.first = w.first ∧ w.fins.wrote = w.wrote ∧ w.fins.has = w.has ∧ (∀ y, w.fins.talk y = none ↔ w.talk y = none) ∧ w.fins.cuts = w.cuts ∧ w.fins.port = w.port ∧
    ∀ y, w.fins.T y = if w.talk y ≠ none then (w.T y).finish else w.T y := by
  obtain ⟨a1, a2, a3, a4, a5, a6, a7, a8⟩ := finish_rest w false
  obtain ⟨b1, b2, b3, b4, b5, b6, b7, b8⟩ := finish_rest (w.finish false) true
  refine ⟨b1.trans a1, b2.trans a2, b3.trans a3, b4.trans a4, b5.trans a5, fun y => (b6 y).trans (a6 y), b7.trans a7, b8.trans a8, fun y => ?_⟩
  show ((w.finish false).finish true).T y = _
  rw [finish_T]
  cases y with
  | false =>
    rw [if_neg (fun q => nomatch q.1), finish_T]
    by_cases c : w.talk false ≠ none
    · rw [if_pos ⟨rfl, c⟩, if_pos c]
    · rw [if_neg (fun q => c q.2), if_neg c]
  | true =>
    by_cases c : w.talk true ≠ none
    · rw [if_pos ⟨rfl, fun q => c ((a6 true).mp q)⟩, if_pos c, finish_T, if_neg (fun q => nomatch q.1)]
    · rw [if_neg (fun q => c (fun e => q.2 ((a6 true).mpr e))), if_neg c, finish_T, if_neg (fun q => nomatch q.1)]
theorem ticked_facts (w : Wd) (m : Nat) : (w.ticked m).now = w.now + m ∧ (w.ticked m).first = w.first ∧ (w.ticked m).wrote = w.wrote ∧ (w.ticked m).has = w.has ∧ (∀ y, (w.ticked m).talk y = none ↔ w.talk y = none) ∧ (w.ticked m).cuts = w.cuts ∧ (w.ticked m).port = w.port ∧
    (∀ y, (w.ticked m).T y = if w.talk y ≠ none then (w.T y).due (w.now + m) else w.T y) ∧ ∀ y, (w.ticked m).road (!y) = w.road (!y) ++ (if w.talk y ≠ none then (w.T y).dueOut (w.now + m) else []) := by
  have hT : ({ w with now := w.now + m } : Wd).T = w.T := T_keep rfl rfl rfl
  obtain ⟨a1, a2, a3, a4, a5, a6, a7, a8⟩ := due_rest ({ w with now := w.now + m } : Wd) false
  obtain ⟨b1, b2, b3, b4, b5, b6, b7, b8⟩ := due_rest (({ w with now := w.now + m } : Wd).due false) true
  have tt : (({ w with now := w.now + m } : Wd).due false).T true = w.T true := by
    rw [due_T, if_neg (fun q => nomatch q.1), hT]
  have tc : ((({ w with now := w.now + m } : Wd).due false).talk true ≠ none) = (w.talk true ≠ none) := propext ⟨fun q e => q ((a6 true).mpr e), fun q e => q ((a6 true).mp e)⟩
  refine ⟨b2.trans a2, b3.trans a3, b4.trans a4, b5.trans a5, fun y => (b6 y).trans (a6 y), b7.trans a7, b8.trans a8, fun y => ?_, fun y => ?_⟩
  · show ((({ w with now := w.now + m } : Wd).due false).due true).T y = _
    rw [due_T]
    cases y with
    | false =>
      rw [if_neg (fun q => nomatch q.1), due_T, hT]
      by_cases c : w.talk false ≠ none
      · rw [if_pos ⟨rfl, c⟩, if_pos c]
      · rw [if_neg (fun q => c q.2), if_neg c]
    | true =>
      by_cases c : w.talk true ≠ none
      · rw [if_pos ⟨rfl, tc ▸ c⟩, if_pos c, tt, a2]
      · rw [if_neg (fun q => c (tc ▸ q.2)), if_neg c, tt]
  · show ((({ w with now := w.now + m } : Wd).due false).due true).road (!y) = _
    rw [b1, a1, hT]
    cases y with
    | false => rfl
    | true =>
      rw [tt, a2]
      have tc' : ((({ w with now := w.now + m } : Wd).due false).talk true = none) = (w.talk true = none) := propext (a6 true)
      show w.road false ++ (if (({ w with now := w.now + m } : Wd).due false).talk true ≠ none then _ else []) = w.road false ++ (if w.talk true ≠ none then _ else [])
      simp only [ne_eq, tc']
theorem tick_facts (w : Wd) : w.tick.now = w.now + 1 ∧ w.tick.first = w.first ∧ w.tick.wrote = w.wrote ∧ w.tick.has = w.has ∧ (∀ y, w.tick.talk y = none ↔ w.talk y = none) ∧ w.tick.cuts = w.cuts ∧ w.tick.port = w.port ∧
    (∀ y, w.tick.T y = if w.talk y ≠ none then (w.T y).finish.due (w.now + 1) else w.T y) ∧ ∀ y, w.tick.road (!y) = w.road (!y) ++ (if w.talk y ≠ none then (w.T y).finish.dueOut (w.now + 1) else []) := by
  obtain ⟨a1, a2, a3, a4, a5, a6, a7, a8, a9⟩ := fins_facts w
  obtain ⟨b1, b2, b3, b4, b5, b6, b7, b8, b9⟩ := ticked_facts w.fins 1
  have tc : ∀ y, (w.fins.talk y ≠ none) = (w.talk y ≠ none) := fun y => propext ⟨fun q e => q ((a6 y).mpr e), fun q e => q ((a6 y).mp e)⟩
  refine ⟨by rw [← a2]; exact b1, b2.trans a3, b3.trans a4, b4.trans a5, fun y => (b5 y).trans (a6 y), b6.trans a7, b7.trans a8, fun y => ?_, fun y => ?_⟩
  · show (w.fins.ticked 1).T y = _
    rw [b8, a9, a2]
    by_cases c : w.talk y ≠ none
    · rw [if_pos ((tc y) ▸ c), if_pos c, if_pos c]
    · rw [if_neg ((tc y) ▸ c), if_neg c, if_neg c]
  · show (w.fins.ticked 1).road (!y) = _
    rw [b9, a9, a1, a2]
    by_cases c : w.talk y ≠ none
    · rw [if_pos ((tc y) ▸ c), if_pos c, if_pos c]
    · rw [if_neg ((tc y) ▸ c), if_neg c]
theorem WInv.tick (I : WInv w) : WInv w.tick := ((I.finish false).finish true).ticked 1
theorem last_due (tl : Tl) (n : Nat) : (tl.due n).last = n := by
  unfold Tl.due
  split
  · rfl
  split <;> rfl
theorem due_keeps (tl : Tl) (n : Nat) : (tl.due n).t = tl.t ∧ (tl.due n).rested = tl.rested ∧ (tl.due n).fin = tl.fin ∧ (tl.due n).g.passed = tl.g.passed ∧ (tl.due n).g.fin = tl.g.fin ∧ (tl.due n).g.kept = tl.g.kept ∧ (tl.due n).g.reach = tl.g.reach := by
  obtain ⟨b1, b2, b3, b4, b5, b6⟩ := tl.g.due_fields n
  unfold Tl.due
  split
  · exact ⟨rfl, rfl, rfl, rfl, rfl, rfl, rfl⟩
  split <;> exact ⟨rfl, rfl, rfl, b5, b6, b2, b4⟩
/-- what is told when due: no cuts, and one answer -/
theorem dueOut_ans (tl : Tl) (n : Nat) : ∀ s ∈ tl.dueOut n, s.c = false ∧ (s.a = true → ∃ t, tl.t = some t ∧ s.answer = t.wanted) := fun s hs => by
  unfold Tl.dueOut at hs
  split at hs
  · cases hs
  split at hs
  · cases hs
  obtain ⟨p, _, rfl⟩ := List.mem_map.mp hs
  refine ⟨rfl, fun ha => ?_⟩
  have ha : tl.t.isSome = true := ha
  cases e : tl.t with
  | none => rw [e] at ha; cases ha
  | some t =>
    refine ⟨t, rfl, ?_⟩
    show (if tl.t.isSome = true then (match tl.t with | none => 0 | some t => t.wanted) else 0) = _
    rw [e]
    rfl
theorem Head.run (Hd : Head w) : Run w.tick := by
  obtain ⟨a1, a2, a3, a4, a5, a6, a7, a8, a9⟩ := tick_facts w
  obtain ⟨e0, e1⟩ := Hd.empty
  have he : ∀ y, w.road y = [] := fun y => by cases y; exact e0; exact e1
  have hI := Hd.inv.tick
  refine ⟨hI, fun x tl h => ?_, fun x s hs => ?_, fun x => ?_⟩
  · have h1 := T_some h
    have hx : w.talk x ≠ none := fun e => by rw [(a5 x).mpr e] at h; cases h
    rw [a8, if_pos hx] at h1
    rw [← h1, a1]
    exact last_due _ _
  · have q := a9 (!x)
    rw [nn, he, List.nil_append] at q
    rw [q] at hs
    split at hs
    · exact (dueOut_ans _ _ s hs).1
    · cases hs
  · have q := a9 (!x)
    rw [nn, he, List.nil_append] at q
    rw [q]
    split
    · rename_i c
      refine Fifo.app (l := []) (W := wof (w.tick.first x) (w.tick.T !x).t) (fun s hs ha => ?_) (fun s hs => by cases hs) (hI.pair.core.ans x) trivial
      obtain ⟨t, t1, t2⟩ := (dueOut_ans _ _ s hs).2 ha
      have e : (w.tick.T !x).t = some t := by rw [a8, if_pos c, (due_keeps _ _).1]; exact t1
      rw [e, t2]
      rfl
    · trivial
/-! ### how long until something goes -/
def Gv.q (g : Gv) (now : Nat) : Nat := if g.sent = 0 ∧ 0 < g.reach then 0 else match g.since with
  | some s => 1 + (s + g.wait - now)
  | none => 66
theorem GInv.q_le {f : Nat} {wr : List Nat} {now : Nat} {g : Gv} (I : GInv f wr now g) : g.q now ≤ 66 := by
  unfold Gv.q
  split
  · exact Nat.zero_le _
  · cases e : g.since with
    | none => exact Nat.le_refl _
    | some s =>
      have := I.since s e
      have := I.wait
      show 1 + (s + g.wait - now) ≤ 66
      omega
theorem over_iff (tl : Tl) : tl.isOver = true ↔ tl.ending ≠ .no ∨ (tl.g.passed ≠ 0 ∧ ∃ s, tl.rested = some s ∧ s + 120 ≤ tl.last) := by
  unfold Tl.isOver Tl.stand Tl.isOpen
  cases e : tl.ending with
  | cut => simp
  | gone => simp
  | no =>
    by_cases c : 0 < tl.g.passed
    · cases r : tl.rested with
      | none =>
        simp only [c, decide_true, if_true]
        refine ⟨fun h => ?_, fun h => ?_⟩
        · exfalso
          split at h
          · simp at h
          · split at h <;> simp at h
        · rcases h with h | ⟨_, s, h, _⟩
          · exact absurd rfl h
          · cases h
      | some s =>
        simp only [c, decide_true, if_true]
        by_cases c2 : tl.last < s + 120
        · rw [if_pos c2]
          refine ⟨fun h => by simp at h, fun h => ?_⟩
          rcases h with h | ⟨_, u, h, h2⟩
          · exact absurd rfl h
          · cases h
            omega
        · rw [if_neg c2]
          exact ⟨fun _ => .inr ⟨by omega, s, rfl, by omega⟩, fun _ => rfl⟩
    · simp only [c, decide_false, Bool.false_eq_true, if_false]
      refine ⟨fun h => ?_, fun h => ?_⟩
      · exfalso
        split at h <;> simp at h
      · rcases h with h | ⟨h, _⟩
        · exact absurd rfl h
        · omega
theorem over_later {tl : Tl} {n : Nat} (h : tl.last ≤ n) (ho : tl.isOver = true) : (tl.at_ n).isOver = true := by
  rw [over_iff] at ho ⊢
  rcases ho with ho | ⟨h1, s, h2, h3⟩
  · exact .inl ho
  · exact .inr ⟨h1, s, h2, Nat.le_trans h3 h⟩
theorem finish_g {tl : Tl} (ho : tl.isOver = false) : tl.finish = { tl with fin := true, g := tl.g.finish } := by
  unfold Tl.finish
  rw [if_neg (by rw [ho]; decide)]
theorem finish_over {tl : Tl} (ho : tl.isOver = true) : tl.finish = tl := by
  unfold Tl.finish
  rw [if_pos ho]
theorem over_at_finish {tl : Tl} {n : Nat} (h : tl.last ≤ n) (hn : (tl.finish.at_ n).isOver = false) : tl.isOver = false := by
  cases ho : tl.isOver with
  | false => rfl
  | true =>
    rw [finish_over ho, over_later h ho] at hn
    cases hn
theorem GInv.glue_pair {f : Nat} {wr : List Nat} {now : Nat} {g : Gv} (I : GInv f wr now g) {p : Nat × List It} (hp : p ∈ g.duePairs now) : glue p.2 = p.2 := by
  obtain ⟨n, m, n1, n2, _⟩ := I.pairs.1 p hp
  have e2 : p.2 = ((strm wr g.fin).drop (g.passed + n)).take m := by rw [n2, I.kept, List.drop_drop]
  conv => lhs; rw [e2, glue_slice]
  exact e2.symm
theorem again_mem {g : Gv} {n : Nat} (h : ((({ g with now := n } : Gv).count n).isAgain n) = true) : (g.base, g.kept.take (min 32 g.sent)) ∈ g.duePairs n := by
  obtain ⟨c1, c2, c3, c4, _⟩ := ({ g with now := n } : Gv).count_fields n
  unfold Gv.duePairs
  refine List.mem_append_left _ ?_
  unfold Gv.againPairs
  rw [if_pos h, c1, c3, c4]
  exact List.mem_singleton.mpr rfl
theorem first_mem {g : Gv} {n : Nat} (h0 : g.sent = 0) (h1 : 0 < (g.due1 n).last) : (moved g.base 0, g.kept.take (min 32 (g.due1 n).last)) ∈ g.duePairs n := by
  obtain ⟨a1, a2, a3, a4, a5, a6⟩ := g.due1_fields n
  unfold Gv.duePairs
  refine List.mem_append_right _ ?_
  rw [a1, a2, a3, h0, chunks, dif_pos h1]
  exact List.mem_cons_self ..
/-- what x does when due, where it is not at its end and something is not answered -/
theorem due_cases {f : Nat} {wr : List Nat} {n : Nat} {g : Gv} (I : GInv f wr n g) (hk : 0 < g.kept.length) :
    (∃ p ∈ g.duePairs n, far f p.1 = g.passed ∧ p.2 ≠ []) ∨ (g.sent = 0 ∧ g.reach = 0 ∧ (g.due n).sent = 0 ∧ ∃ p ∈ g.duePairs n, p.2 = []) ∨
    (¬ (g.sent = 0 ∧ 0 < g.reach) ∧ (∃ s, (g.since = some s ∨ (g.since = none ∧ s = n)) ∧ n < s + g.wait ∧ (g.due n).since = some s) ∧ (g.due n).wait = g.wait ∧ (g.due n).tried = g.tried) := by
  obtain ⟨a1, a2, a3, a4, a5, a6⟩ := g.due1_fields n
  obtain ⟨b1, b2, b3, b4, b5, b6⟩ := g.due_fields n
  obtain ⟨c1, c2, c3, c4, c5, c6, c7, c8, c9, c10⟩ := ({ g with now := n } : Gv).count_fields n
  have hpace := I.due1.pace
  have hsent := I.sent
  by_cases hN : g.sent = 0 ∧ 0 < g.reach
  · left
    have hl : 0 < (g.due1 n).last := by unfold Gv.last; rw [a2, a4]; omega
    refine ⟨_, first_mem hN.1 hl, ?_, ?_⟩
    · show far f (moved g.base 0) = _
      rw [moved_zero I.basel]
      exact I.fbase
    · intro e
      have e : g.kept.take (min 32 (g.due1 n).last) = [] := e
      have := congrArg List.length e
      rw [List.length_take] at this
      simp only [List.length_nil] at this
      omega
  · have hcount : ({ g with now := n } : Gv).counted = true := by
      unfold Gv.counted
      simp only [Bool.or_eq_true, Bool.and_eq_true, decide_eq_true_eq]
      by_cases q0 : g.sent = 0
      · right
        refine ⟨hk, ?_⟩
        by_cases q1 : 0 < g.reach
        · exact absurd ⟨q0, q1⟩ hN
        · show g.reach = 0
          omega
      · left
        show 0 < g.sent
        omega
    have hsince := ({ g with now := n } : Gv).count_since n
    rw [if_pos hcount] at hsince
    by_cases hA : (({ g with now := n } : Gv).count n).isAgain n = true
    · by_cases hs0 : g.sent = 0
      · right; left
        have hr0 : g.reach = 0 := by
          by_cases q1 : 0 < g.reach
          · exact absurd ⟨hs0, q1⟩ hN
          · omega
        refine ⟨hs0, hr0, ?_, _, again_mem hA, ?_⟩
        · rw [b3, hs0]
          unfold Gv.last
          rw [a4, hr0]
          omega
        · show g.kept.take (min 32 g.sent) = []
          rw [hs0]; rfl
      · left
        refine ⟨_, again_mem hA, I.fbase, ?_⟩
        intro e
        have e : g.kept.take (min 32 g.sent) = [] := e
        have := congrArg List.length e
        rw [List.length_take] at this
        simp only [List.length_nil] at this
        omega
    · right; right
      have e1 : g.due1 n = ({ g with now := n } : Gv).count n := by unfold Gv.due1 Gv.again; rw [if_neg hA]
      have f1 := ({ g.due1 n with sent := max (g.due1 n).sent (g.due1 n).last } : Gv).count_fields n
      have f2 := ({ g.due1 n with sent := max (g.due1 n).sent (g.due1 n).last } : Gv).count_since n
      have hc2 : ({ g.due1 n with sent := max (g.due1 n).sent (g.due1 n).last } : Gv).counted = true := by
        refine counted_kept hcount ?_ ?_ ?_
        · show g.sent ≤ max (g.due1 n).sent (g.due1 n).last
          rw [a3]; exact Nat.le_max_left ..
        · show g.kept.length ≤ (g.due1 n).kept.length
          rw [a2]; exact Nat.le_refl _
        · exact a4
      rw [if_pos hc2] at f2
      have key : ∃ s, (g.since = some s ∨ (g.since = none ∧ s = n)) ∧ (({ g with now := n } : Gv).count n).since = some s := by
        rw [hsince]
        cases e : g.since with
        | none => exact ⟨n, .inr ⟨rfl, rfl⟩, rfl⟩
        | some s => exact ⟨s, .inl rfl, rfl⟩
      obtain ⟨s, k1, k2⟩ := key
      refine ⟨hN, ⟨s, k1, ?_, ?_⟩, ?_, ?_⟩
      · unfold Gv.isAgain at hA
        rw [k2, c2] at hA
        have := of_decide_eq_false (by simpa using hA : decide (s + g.wait ≤ n) = false)
        omega
      · show (({ g.due1 n with sent := max (g.due1 n).sent (g.due1 n).last } : Gv).count n).since = some s
        rw [f2]
        show (match (g.due1 n).since with | none => some n | some s => some s) = some s
        rw [e1, k2]
      · show (({ g.due1 n with sent := max (g.due1 n).sent (g.due1 n).last } : Gv).count n).wait = _
        rw [f1.2.1]
        show (g.due1 n).wait = _
        rw [e1, c2]
      · show (({ g.due1 n with sent := max (g.due1 n).sent (g.due1 n).last } : Gv).count n).tried = _
        rw [f1.2.2.2.2.2.2.1]
        show (g.due1 n).tried = _
        rw [e1, c7]
end
end SW
end
section
/-! What a tick brings. -/
namespace SW
section
variable {w : Wd}
/-- x ahead of its due: finished, all kept -/
structure Fin (w : Wd) (x : Bool) : Prop where
  no : (w.T x).isOver = false
  eq : w.tick.T x = (w.T x).finish.dueG (w.now + 1)
  fin : (w.T x).finish = { w.T x with fin := true, g := (w.T x).g.finish }
  inv : GInv (w.first x) (w.wrote x) (w.now + 1) (w.T x).g.finish
  road : w.tick.road (!x) = ((w.T x).g.finish.duePairs (w.now + 1)).map fun p => ((w.T x).finish.dueG (w.now + 1)).segmentOf p.1 p.2
  few : ((w.T x).g.finish.due (w.now + 1)).tried < 16
theorem Head.fin (Hd : Head w) (x : Bool) (hx : w.talk x ≠ none) : (w.tick.T x).isOver = true ∨ Fin w x := by
  obtain ⟨a1, a2, a3, a4, a5, a6, a7, a8, a9⟩ := tick_facts w
  obtain ⟨e0, e1⟩ := Hd.empty
  have he : ∀ y, w.road y = [] := fun y => by cases y; exact e0; exact e1
  have hlast : (w.T x).last ≤ w.now + 1 := Nat.le_succ_of_le (Hd.inv.pair.ok x).last
  have hT := a8 x
  have hR := a9 x
  rw [if_pos hx] at hT hR
  rw [he, List.nil_append] at hR
  cases ho : ((w.T x).finish.at_ (w.now + 1)).isOver with
  | true =>
    left
    rw [hT]
    unfold Tl.due
    rw [if_pos ho]
    exact ho
  | false =>
    have hno : (w.T x).isOver = false := over_at_finish hlast ho
    have hg : GInv (w.first x) (w.wrote x) (w.now + 1) (w.T x).g.finish := ((Hd.inv.pair.g x).later (Nat.le_succ _)).finish
    have hf := finish_g hno
    by_cases h16 : 16 ≤ ((w.T x).finish.dueG (w.now + 1)).g.tried
    · left
      rw [hT]
      unfold Tl.due
      rw [if_neg (by rw [ho]; decide), if_pos h16, over_iff]
      exact .inl (fun q => nomatch q)
    · right
      refine ⟨hno, ?_, hf, hg, ?_, ?_⟩
      · rw [hT]
        unfold Tl.due
        rw [if_neg (by rw [ho]; decide), if_neg h16]
      · rw [hR]
        unfold Tl.dueOut
        rw [if_neg (by rw [ho]; decide), if_neg h16, hf]
      · rw [hf] at h16
        exact Nat.lt_of_not_le h16
theorem Fin.facts {x : Bool} (F : Fin w x) : (w.tick.T x).g = (w.T x).g.finish.due (w.now + 1) ∧ (w.tick.T x).t = (w.T x).t ∧ (w.tick.T x).rested = (w.T x).rested ∧ (w.tick.T x).g.passed = (w.T x).g.passed ∧ (w.tick.T x).g.fin = true ∧ (w.tick.T x).ending = .no := by
  have e := F.eq
  rw [F.fin] at e
  obtain ⟨b1, b2, b3, b4, b5, b6⟩ := (w.T x).g.finish.due_fields (w.now + 1)
  rw [e]
  refine ⟨rfl, rfl, rfl, b5, ?_, ?_⟩
  · show ((w.T x).g.finish.due (w.now + 1)).fin = true
    rw [b6]; rfl
  · show (w.T x).ending = .no
    exact notover_gone F.no
/-- something is not answered -/
theorem Fin.kept {x : Bool} (F : Fin w x) (h : (w.T x).g.passed < (w.wrote x).length + 2) : 0 < (w.T x).g.finish.kept.length := by
  rw [F.inv.klen]
  show 0 < slen (w.wrote x) true - (w.T x).g.passed
  unfold slen
  simp
  omega
theorem Fin.seg {x : Bool} (F : Fin w x) {p : Nat × List It} (hp : p ∈ (w.T x).g.finish.duePairs (w.now + 1)) : ∃ s ∈ w.tick.road (!x), s.a = (w.T x).t.isSome ∧ s.number = p.1 ∧ s.items = p.2 ∧ (p.2 = [] → s.q = true) := by
  refine ⟨((w.T x).finish.dueG (w.now + 1)).segmentOf p.1 p.2, by rw [F.road]; exact List.mem_map.mpr ⟨p, hp, rfl⟩, ?_, rfl, F.inv.glue_pair hp, fun h => ?_⟩
  · rw [F.fin]; rfl
  · exact decide_eq_true h
theorem q_finish (g : Gv) (n : Nat) : g.finish.q n = g.q n := rfl
/-- a tick for x: something goes, or the time for it comes nearer -/
theorem Fin.goes {x : Bool} (F : Fin w x) (Hd : Head w) (h : (w.T x).g.passed < (w.wrote x).length + 2) :
    (∃ s ∈ w.tick.road (!x), s.a = (w.T x).t.isSome ∧ far (w.first x) s.number = (w.T x).g.passed ∧ s.items ≠ []) ∨
    ((w.T x).g.reach = 0 ∧ (w.tick.T x).g.hi = (w.T x).g.passed ∧ 0 < (w.T x).g.q w.now ∧ ∃ s ∈ w.tick.road (!x), s.a = (w.T x).t.isSome ∧ s.q = true) ∨
    ∃ s0, w.now + 1 < s0 + (w.T x).g.wait ∧ (w.tick.T x).g.since = some s0 ∧ (w.tick.T x).g.wait = (w.T x).g.wait ∧ 1 + (s0 + (w.T x).g.wait - (w.now + 1)) < (w.T x).g.q w.now ∧ (w.tick.T x).g.tried = (w.T x).g.tried := by
  obtain ⟨f1, f2, f3, f4, f5, f6⟩ := F.facts
  have hg := Hd.inv.pair.g x
  rcases due_cases F.inv (F.kept h) with ⟨p, hp, h1, h2⟩ | ⟨h1, h2, h3, p, hp, h4⟩ | ⟨h1, ⟨s, h2, h3, h4⟩, h5, h6⟩
  · left
    obtain ⟨s, hs, s1, s2, s3, s4⟩ := F.seg hp
    exact ⟨s, hs, s1, by rw [s2]; exact h1, by rw [s3]; exact h2⟩
  · right; left
    obtain ⟨s, hs, s1, s2, s3, s4⟩ := F.seg hp
    refine ⟨h2, ?_, ?_, s, hs, s1, s4 h4⟩
    · unfold Gv.hi
      rw [f4, f1, h3]
      rfl
    · have h1 : (w.T x).g.sent = 0 := h1
      have h2 : (w.T x).g.reach = 0 := h2
      unfold Gv.q
      rw [if_neg (by omega)]
      cases (w.T x).g.since with
      | none => exact Nat.succ_pos _
      | some s => show 0 < 1 + _; omega
  · right; right
    have h1 : ¬ ((w.T x).g.sent = 0 ∧ 0 < (w.T x).g.reach) := h1
    have h2 : (w.T x).g.since = some s ∨ ((w.T x).g.since = none ∧ s = w.now + 1) := h2
    have h3 : w.now + 1 < s + (w.T x).g.wait := h3
    refine ⟨s, h3, by rw [f1]; exact h4, by rw [f1]; exact h5, ?_, by rw [f1]; exact h6⟩
    unfold Gv.q
    rw [if_neg h1]
    have hw := hg.wait
    rcases h2 with h2 | ⟨h2, h2'⟩
    · rw [h2]
      show _ < 1 + (s + (w.T x).g.wait - w.now)
      omega
    · rw [h2]
      show _ < 66
      omega
/-- what a tick brings, where both are there and x has a taker -/
theorem progress (Hd : Head w) (x : Bool) (hb : w.talk true ≠ none) (htx : (w.T x).t ≠ none) (h : (w.T x).g.passed < (w.wrote x).length + 2) (k : Nat) (he : (w.tick.run k).empty) :
    ((w.tick.run k).T x).isOver = true ∨ ((w.tick.run k).T !x).isOver = true ∨ (w.T x).g.passed < ((w.tick.run k).T x).g.passed ∨ ((w.tick.run k).T x).g.q (w.now + 1) < (w.T x).g.q w.now := by
  obtain ⟨a1, a2, a3, a4, a5, a6, a7, a8, a9⟩ := tick_facts w
  have hx : ∀ y, w.talk y ≠ none := fun y => by cases y; exact Hd.inv.t0; exact hb
  have hbt : w.tick.talk true ≠ none := fun q => hb ((a5 true).mp q)
  have R := Hd.run
  have hsome : (w.T x).t.isSome = true := by
    cases e : (w.T x).t with
    | none => exact absurd e htx
    | some t => rfl
  have e0 : ∀ y, (w.tick.run k).road y = [] := fun y => by cases y; exact he.1; exact he.2
  have hty : ∀ y, (w.tick.T y).t = (w.T y).t := fun y => by
    rw [a8, if_pos (hx y), (due_keeps _ _).1]
    unfold Tl.finish
    split <;> rfl
  -- what is unread there
  have hu : Unr (w.tick.first x) (w.T x).g.passed (w.tick.T !x).t := by
    rw [a2, hty]
    have hans := Hd.inv.pair.core.ans x
    cases e : (w.T !x).t with
    | none =>
      rw [e] at hans
      have hans : (w.T x).g.passed ≤ 0 := hans
      show (w.T x).g.passed = 0
      omega
    | some t =>
      rw [e] at hans
      have hans : (w.T x).g.passed ≤ far (w.first x) t.wanted := hans
      have := Hd.unread (!x) t e
      show t.unread.length + (w.T x).g.passed ≤ far (w.first x) t.wanted
      rw [this]
      show 0 + _ ≤ _
      omega
  have over_now : (w.tick.T x).isOver = true → ((w.tick.run k).T x).isOver = true := fun ho => by
    have P := (run_ind (P := fun v => v.talk true ≠ none ∧ (v.T x).isOver = true) (fun v z s r Rv hr hz hv => by
      obtain ⟨c1, c2, c3, _⟩ := come_both Rv hv.1 hr
      refine ⟨c3, ?_⟩
      rw [c1]
      rcases eq_or_not x z with rfl | rfl
      · rw [put_same, (Rv.heard_over (both_talk Rv hv.1 z) hv.2).1]; exact hv.2
      · rw [put_not']; exact hv.2) k R ⟨hbt, ho⟩).2
    exact P.2
  rcases Hd.fin x (hx x) with ho | F
  · exact .inl (over_now ho)
  obtain ⟨f1, f2, f3, f4, f5, f6⟩ := F.facts
  have hq1 : (w.tick.run k).now = w.now + 1 := by
    have P := (run_ind (P := fun v => v.now = w.now + 1) (fun v z s r Rv hr hz hv => ((come_now _ _ _).1).trans hv) k R a1).2
    exact P
  rcases F.goes Hd h with ⟨s, hs, s1, s2, s3⟩ | ⟨h2, h3, h4, s, hs, s1, s2⟩ | ⟨s0, h1, h2, h3, h4, h5⟩
  · -- something new
    have J0 : J1 x (w.T x).g.passed w.tick := ⟨hbt, by rw [f2]; exact htx, hu, .inr (.inr (.inr (.inr ⟨s, hs, s1.trans hsome, by rw [a2]; exact s2, s3⟩)))⟩
    have J := (run_ind (J1.step x _) k R J0).2
    rcases J.j with j | j | j | ⟨s, hs, _⟩ | ⟨s, hs, _⟩
    · exact .inl j
    · exact .inr (.inl j)
    · exact .inr (.inr (.inl j))
    · rw [e0] at hs; cases hs
    · rw [e0] at hs; cases hs
  · -- a question
    have hty0 : (w.T !x).t ≠ none := by
      refine Hd.inv.pair.open_of x fun e => ?_
      have := ((Hd.inv.pair.g x).zero e).1
      omega
    have J0 : J2 x (w.T x).g.passed w.tick := ⟨hbt, by rw [f2]; exact htx, by rw [hty]; exact hty0, h3, f4, hu, .inr (.inr (.inr (.inr ⟨s, hs, s1.trans hsome, s2⟩)))⟩
    have J := (run_ind (J2.step x _) k R J0).2
    rcases J.j with j | j | j | ⟨s, hs, _⟩ | ⟨s, hs, _⟩
    · exact .inl j
    · exact .inr (.inl j)
    · right; right; right
      have jh := J.hi
      have jp := J.p
      unfold Gv.hi at jh
      unfold Gv.q at h4 ⊢
      rw [if_pos ⟨by omega, j⟩]
      exact h4
    · rw [e0] at hs; cases hs
    · rw [e0] at hs; cases hs
  · -- nothing went again
    have J0 : J3 x (w.T x).g.passed s0 (w.T x).g.wait w.tick := by
      refine ⟨talk_T (fun q => hx x ((a5 x).mp q)), by rw [f4]; exact Nat.le_refl _, ?_, .inr (.inr ⟨h2, h3⟩)⟩
      rw [a3, f5]
      unfold slen
      simp
      omega
    have J := (run_ind (J3.step x _ _ _) k R J0).2
    rcases J.j with j | j | ⟨j1, j2⟩
    · exact .inr (.inr (.inl j))
    · right; right; right
      unfold Gv.q at h4 ⊢
      rw [if_pos j]
      omega
    · right; right; right
      by_cases c : ((w.tick.run k).T x).g.sent = 0 ∧ 0 < ((w.tick.run k).T x).g.reach
      · unfold Gv.q at h4 ⊢
        rw [if_pos c]
        omega
      · conv => lhs; unfold Gv.q
        rw [if_neg c, j1, j2]
        exact h4
/-- where the first is alone -/
theorem lonely (Hd : Head w) (hn : w.talk true = none) (k : Nat) (he : (w.tick.run k).empty) :
    (w.tick.run k).talk true ≠ none ∨ ((w.tick.run k).T false).isOver = true ∨ ((w.tick.run k).T false).g.q (w.now + 1) < (w.T false).g.q w.now := by
  obtain ⟨a1, a2, a3, a4, a5, a6, a7, a8, a9⟩ := tick_facts w
  have R := Hd.run
  obtain ⟨l1, l2, l3, l4⟩ := Hd.inv.lone hn
  have hz := (Hd.inv.pair.core.nt false l1).2
  have e0 : ∀ y, (w.tick.run k).road y = [] := fun y => by cases y; exact he.1; exact he.2
  have born : ∀ v : Wd, Run v → v.talk true ≠ none → ∀ z s r, v.road z = s :: r → (({ v with road := put v.road z r } : Wd).come z s).talk true ≠ none := fun v Rv hv z s r hr => (come_both Rv hv hr).2.2.1
  rcases Hd.fin false Hd.inv.t0 with ho | F
  · have P := (run_ind (P := fun v => v.talk true ≠ none ∨ (v.T false).isOver = true) (fun v z s r Rv hr hz hv => by
      rcases hv with hv | hv
      · exact .inl (born v Rv hv z s r hr)
      · by_cases hb : v.talk true = none
        · cases z with
          | false =>
            have := (Rv.inv.lone hb).2.1
            rw [hr] at this
            cases this
          | true => right; rw [show (({ v with road := put v.road true r } : Wd).come true s).T false = v.T false from (come_other Rv (x := false) Rv.inv.t0 hr).1]; exact hv
        · exact .inl (born v Rv hb z s r hr)) k R (.inr ho)).2
    rcases P with P | P
    · exact .inl P
    · exact .inr (.inl P)
  obtain ⟨f1, f2, f3, f4, f5, f6⟩ := F.facts
  rcases F.goes Hd (by have hz : (w.T false).g.passed = 0 := hz; omega) with ⟨s, hs, s1, s2, s3⟩ | ⟨h2, _⟩ | ⟨s0, h1, h2, h3, h4, h5⟩
  · left
    have P := (run_ind (P := fun v => v.talk true ≠ none ∨ v.road true ≠ []) (fun v z s r Rv hr hz hv => by
      by_cases hb : v.talk true = none
      · left
        obtain ⟨m1, m2, m3, m4⟩ := Rv.inv.lone hb
        cases z with
        | false => rw [hr] at m2; cases m2
        | true =>
          have hs : s ∈ v.road true := by rw [hr]; exact List.mem_cons_self ..
          have hin := Rv.inv.pair.seg hs
          have hc := Rv.noc true s hs
          have ha : s.a = false := by
            cases e : s.a with
            | false => rfl
            | true =>
              obtain ⟨_, q2, q3⟩ := hin.an e
              have q3 : far (v.first true) s.answer ≤ wof (v.first true) (v.T false).t := q3
              rw [m1] at q3
              have q3 : far (v.first true) s.answer ≤ 0 := q3
              omega
          have ho := (hin.na ha hc).2.1
          have e : (({ v with road := put v.road true r } : Wd).come true s) = ({ v with road := put v.road true r } : Wd).bear s := come_begin (w := { v with road := put v.road true r }) hb ⟨ho, ha, hc⟩
          rw [e]
          show put v.talk true _ true ≠ none
          rw [put_same]
          exact fun q => nomatch q
      · exact .inl (born v Rv hb z s r hr)) k R (.inr (by intro q; have hs : s ∈ w.tick.road true := hs; rw [q] at hs; cases hs))).2
    rcases P with P | P
    · exact P
    · exact absurd (e0 true) P
  · have := ((Hd.inv.pair.g false).zero hz).1
    omega
  · have J0 : J3 false (w.T false).g.passed s0 (w.T false).g.wait w.tick := by
      refine ⟨talk_T (fun q => Hd.inv.t0 ((a5 false).mp q)), by rw [f4]; exact Nat.le_refl _, ?_, .inr (.inr ⟨h2, h3⟩)⟩
      rw [a3, f5]
      have hz : (w.T false).g.passed = 0 := hz
      unfold slen
      simp
      omega
    have P := (run_ind (P := fun v => v.talk true ≠ none ∨ (v.talk true = none ∧ J3 false (w.T false).g.passed s0 (w.T false).g.wait v ∧ (v.T false).g.passed = 0)) (fun v z s r Rv hr hz hv => by
      rcases hv with hv | ⟨hb, hv, hp⟩
      · exact .inl (born v Rv hv z s r hr)
      · by_cases hb2 : (({ v with road := put v.road z r } : Wd).come z s).talk true = none
        · right
          refine ⟨hb2, J3.step false _ _ _ v z s r Rv hr hz hv, ?_⟩
          cases z with
          | false =>
            have := (Rv.inv.lone hb).2.1
            rw [hr] at this
            cases this
          | true => rw [show (({ v with road := put v.road true r } : Wd).come true s).T false = v.T false from (come_other Rv (x := false) Rv.inv.t0 hr).1]; exact hp
        · exact .inl hb2) k R (.inr ⟨(a5 true).mpr hn, J0, by rw [f4]; exact hz⟩)).2
    rcases P with P | ⟨_, J, hp⟩
    · exact .inl P
    · right; right
      rcases J.j with j | j | ⟨j1, j2⟩
      · have hz : (w.T false).g.passed = 0 := hz
        omega
      · unfold Gv.q at h4 ⊢
        rw [if_pos j]
        omega
      · by_cases c : ((w.tick.run k).T false).g.sent = 0 ∧ 0 < ((w.tick.run k).T false).g.reach
        · unfold Gv.q at h4 ⊢
          rw [if_pos c]
          omega
        · conv => lhs; unfold Gv.q
          rw [if_neg c, j1, j2]
          exact h4
/-! ### the other is at its end -/
def Gv.q2 (g : Gv) (now : Nat) : Nat := if g.sent = 0 ∧ 0 < g.reach then 66 else match g.since with
  | some s => 1 + (s + g.wait - now)
  | none => 66
theorem GInv.q2_le {f : Nat} {wr : List Nat} {now : Nat} {g : Gv} (I : GInv f wr now g) : g.q2 now ≤ 66 ∧ 1 ≤ g.q2 now := by
  unfold Gv.q2
  split
  · exact ⟨Nat.le_refl _, by decide⟩
  · cases e : g.since with
    | none => exact ⟨Nat.le_refl 66, (by omega : 1 ≤ 66)⟩
    | some s =>
      have := I.since s e
      have := I.wait
      constructor
      · show 1 + (s + g.wait - now) ≤ 66
        omega
      · show 1 ≤ 1 + (s + g.wait - now)
        omega
def Gv.psi (g : Gv) (now : Nat) : Nat := (16 - g.tried) * 66 + g.q2 now
/-- when due, with nothing heard: the measure falls -/
theorem due_psi {f : Nat} {wr : List Nat} {n : Nat} {g : Gv} (I : GInv f wr n g) (hk : 0 < g.kept.length) (ht : (g.due (n + 1)).tried < 16) : (g.due (n + 1)).psi (n + 1) < g.psi n := by
  have I1 : GInv f wr (n + 1) g := I.later (Nat.le_succ n)
  obtain ⟨a1, a2, a3, a4, a5, a6⟩ := g.due1_fields (n + 1)
  obtain ⟨b1, b2, b3, b4, b5, b6⟩ := g.due_fields (n + 1)
  obtain ⟨c1, c2, c3, c4, c5, c6, c7, c8, c9, c10⟩ := ({ g with now := n + 1 } : Gv).count_fields (n + 1)
  have hpace := I1.due1.pace
  have hw := I.wait
  -- behind the due it is counted, and not «nothing sent»
  have hnN : ¬ ((g.due (n + 1)).sent = 0 ∧ 0 < (g.due (n + 1)).reach) := by
    rintro ⟨q1, q2⟩
    rw [b3] at q1
    rw [b4] at q2
    have : 0 < (g.due1 (n + 1)).last := by unfold Gv.last; rw [a2, a4]; omega
    omega
  have hsince : ∀ s, (g.due1 (n + 1)).since = some s → (g.due (n + 1)).since = some s := fun s e => by
    have f2 := ({ g.due1 (n + 1) with sent := max (g.due1 (n + 1)).sent (g.due1 (n + 1)).last } : Gv).count_since (n + 1)
    have hc : ({ g.due1 (n + 1) with sent := max (g.due1 (n + 1)).sent (g.due1 (n + 1)).last } : Gv).counted = true := by
      have h1 := ({ g.due1 (n + 1) with sent := max (g.due1 (n + 1)).sent (g.due1 (n + 1)).last } : Gv).count_counted (n + 1)
      rw [← h1]
      show (g.due (n + 1)).counted = true
      unfold Gv.counted
      simp only [Bool.or_eq_true, Bool.and_eq_true, decide_eq_true_eq]
      by_cases q : (g.due (n + 1)).sent = 0
      · right
        rw [b2]
        refine ⟨hk, ?_⟩
        by_cases q2 : 0 < (g.due (n + 1)).reach
        · exact absurd ⟨q, q2⟩ hnN
        · omega
      · left; omega
    show (({ g.due1 (n + 1) with sent := max (g.due1 (n + 1)).sent (g.due1 (n + 1)).last } : Gv).count (n + 1)).since = some s
    rw [f2, if_pos hc]
    show (match (g.due1 (n + 1)).since with | none => _ | some s => some s) = some s
    rw [e]
  have hsnone : (g.due1 (n + 1)).since = none → (g.due (n + 1)).since = some (n + 1) := fun e => by
    have f2 := ({ g.due1 (n + 1) with sent := max (g.due1 (n + 1)).sent (g.due1 (n + 1)).last } : Gv).count_since (n + 1)
    have hc : ({ g.due1 (n + 1) with sent := max (g.due1 (n + 1)).sent (g.due1 (n + 1)).last } : Gv).counted = true := by
      have h1 := ({ g.due1 (n + 1) with sent := max (g.due1 (n + 1)).sent (g.due1 (n + 1)).last } : Gv).count_counted (n + 1)
      rw [← h1]
      show (g.due (n + 1)).counted = true
      unfold Gv.counted
      simp only [Bool.or_eq_true, Bool.and_eq_true, decide_eq_true_eq]
      by_cases q : (g.due (n + 1)).sent = 0
      · right
        rw [b2]
        refine ⟨hk, ?_⟩
        by_cases q2 : 0 < (g.due (n + 1)).reach
        · exact absurd ⟨q, q2⟩ hnN
        · omega
      · left; omega
    show (({ g.due1 (n + 1) with sent := max (g.due1 (n + 1)).sent (g.due1 (n + 1)).last } : Gv).count (n + 1)).since = _
    rw [f2, if_pos hc]
    show (match (g.due1 (n + 1)).since with | none => some (n + 1) | some s => some s) = _
    rw [e]
  have hwait : (g.due (n + 1)).wait = (g.due1 (n + 1)).wait := (({ g.due1 (n + 1) with sent := max (g.due1 (n + 1)).sent (g.due1 (n + 1)).last } : Gv).count_fields (n + 1)).2.1
  have htried : (g.due (n + 1)).tried = (g.due1 (n + 1)).tried := g.due_tried (n + 1)
  have q2d : ∀ s, (g.due (n + 1)).since = some s → (g.due (n + 1)).q2 (n + 1) = 1 + (s + (g.due (n + 1)).wait - (n + 1)) := fun s e => by
    unfold Gv.q2
    rw [if_neg hnN, e]
  have hqb := (I.q2_le).2
  by_cases hA : (({ g with now := n + 1 } : Gv).count (n + 1)).isAgain (n + 1) = true
  · have e1 : g.due1 (n + 1) = { ({ g with now := n + 1 } : Gv).count (n + 1) with wait := min (2 * (({ g with now := n + 1 } : Gv).count (n + 1)).wait) 64, since := some (n + 1), tried := (({ g with now := n + 1 } : Gv).count (n + 1)).tried + 1, pace := 32 } := by
      unfold Gv.due1 Gv.again; rw [if_pos hA]
    have t1 : (g.due (n + 1)).tried = g.tried + 1 := by rw [htried, e1]; show (({ g with now := n + 1 } : Gv).count (n + 1)).tried + 1 = _; rw [c7]
    have w1 : (g.due (n + 1)).wait ≤ 64 := by rw [hwait, e1]; exact Nat.min_le_right _ _
    have s1 : (g.due (n + 1)).since = some (n + 1) := hsince _ (by rw [e1])
    have q1 := q2d _ s1
    unfold Gv.psi
    rw [q1, t1]
    rw [t1] at ht
    omega
  · have e1 : g.due1 (n + 1) = ({ g with now := n + 1 } : Gv).count (n + 1) := by unfold Gv.due1 Gv.again; rw [if_neg hA]
    have t1 : (g.due (n + 1)).tried = g.tried := by rw [htried, e1, c7]
    have w1 : (g.due (n + 1)).wait = g.wait := by rw [hwait, e1, c2]
    have hcs := ({ g with now := n + 1 } : Gv).count_since (n + 1)
    unfold Gv.psi
    rw [t1]
    refine Nat.add_lt_add_left ?_ _
    by_cases hN : g.sent = 0 ∧ 0 < g.reach
    · have e2 : g.q2 n = 66 := by unfold Gv.q2; rw [if_pos hN]
      have hc : ¬ ({ g with now := n + 1 } : Gv).counted = true := by
        unfold Gv.counted
        simp only [Bool.or_eq_true, Bool.and_eq_true, decide_eq_true_eq]
        rintro (q | ⟨_, q⟩)
        · have q : 0 < g.sent := q; omega
        · have q : g.reach = 0 := q; omega
      rw [if_neg hc] at hcs
      have s1 := hsnone (by rw [e1]; exact hcs)
      have q1 := q2d _ s1
      rw [e2, q1, w1]
      omega
    · have hc : ({ g with now := n + 1 } : Gv).counted = true := by
        unfold Gv.counted
        simp only [Bool.or_eq_true, Bool.and_eq_true, decide_eq_true_eq]
        by_cases q0 : g.sent = 0
        · right
          refine ⟨hk, ?_⟩
          by_cases q1 : 0 < g.reach
          · exact absurd ⟨q0, q1⟩ hN
          · show g.reach = 0
            omega
        · left
          show 0 < g.sent
          omega
      rw [if_pos hc] at hcs
      unfold Gv.isAgain at hA
      cases e : g.since with
      | none =>
        have hcs : (({ g with now := n + 1 } : Gv).count (n + 1)).since = some (n + 1) := by
          rw [hcs]
          show (match g.since with | none => _ | some s => some s) = _
          rw [e]
        have s1 := hsince _ (by rw [e1]; exact hcs)
        have q1 := q2d _ s1
        have e2 : g.q2 n = 66 := by unfold Gv.q2; rw [if_neg hN, e]
        rw [e2, q1, w1]
        omega
      | some s =>
        have hcs : (({ g with now := n + 1 } : Gv).count (n + 1)).since = some s := by
          rw [hcs]
          show (match g.since with | none => _ | some s => some s) = _
          rw [e]
        rw [hcs, c2] at hA
        have hA := of_decide_eq_false (by simpa using hA : decide (s + g.wait ≤ n + 1) = false)
        have hA : ¬ (s + g.wait ≤ n + 1) := hA
        have s1 := hsince _ (by rw [e1]; exact hcs)
        have q1 := q2d _ s1
        have e2 : g.q2 n = 1 + (s + g.wait - n) := by unfold Gv.q2; rw [if_neg hN, e]
        rw [e2, q1, w1]
        omega
end
end SW
end
section
/-! The ending stage comes to its end in time. -/
namespace SW
def Ended (w : Wd) : Prop := (∃ x tl, w.talk x = some tl ∧ tl.stand = .gone ∧ 800 < w.now) ∨ (∃ x tl, w.talk x = some tl ∧ tl.stand = .cut ∧ w.cuts = true) ∨
  (∃ a b, w.talk false = some a ∧ w.talk true = some b ∧ a.stand = .closed ∧ b.stand = .closed)
def CC (w : Wd) : Nat := 67 * ((w.wrote false).length + (w.wrote true).length + 4) + 200
def len (w : Wd) (x : Bool) : Nat := (w.wrote x).length + 2
section
variable {w : Wd}
theorem stand_closed {tl : Tl} (h : tl.ending = .no) (ho : tl.isOver = true) : tl.stand = .closed := by
  unfold Tl.isOver at ho
  have : tl.stand ≠ .cut ∧ tl.stand ≠ .gone := by
    unfold Tl.stand
    rw [h]
    simp only
    constructor <;> (split <;> (try split) <;> (try split) <;> (try split) <;> simp)
  simp [this.1, this.2] at ho
  exact ho
theorem stand_gone {tl : Tl} (h : tl.ending = .gone) : tl.stand = .gone := by unfold Tl.stand; rw [h]
theorem stand_cut {tl : Tl} (h : tl.ending = .cut) : tl.stand = .cut := by unfold Tl.stand; rw [h]
theorem no_of (I : WInv w) (h : ¬ Ended w) (x : Bool) (hx : w.talk x ≠ none) : (w.T x).ending = .no := by
  cases e : (w.T x).ending with
  | no => rfl
  | gone => exact absurd (.inl ⟨x, _, talk_T hx, stand_gone e, (I.pair.ok x).gone e⟩) h
  | cut => exact absurd (.inr (.inl ⟨x, _, talk_T hx, stand_cut e, (I.pair.ok x).cut e⟩)) h
theorem not_both (I : WInv w) (h : ¬ Ended w) (hb : w.talk true ≠ none) (x : Bool) (h1 : (w.T x).isOver = true) : (w.T !x).isOver = false := by
  have hx : ∀ y, w.talk y ≠ none := fun y => by cases y; exact I.t0; exact hb
  cases e : (w.T !x).isOver with
  | false => rfl
  | true =>
    exfalso
    refine h (.inr (.inr ?_))
    cases x with
    | false => exact ⟨_, _, talk_T (hx false), talk_T (hx true), stand_closed (no_of I h false (hx false)) h1, stand_closed (no_of I h true (hx true)) e⟩
    | true => exact ⟨_, _, talk_T (hx false), talk_T (hx true), stand_closed (no_of I h false (hx false)) e, stand_closed (no_of I h true (hx true)) h1⟩
/-! ### behind the reads -/
theorem read_T (w : Wd) (x : Bool) (n : Nat) (y : Bool) : (w.read x n).T y = if y = x ∧ w.talk x ≠ none then (w.T x).read n else w.T y := by
  cases h : w.talk x with
  | none => rw [read_none h, if_neg (fun q => q.2 rfl)]
  | some tl =>
    have hT : (w.read x n).T = put w.T x (tl.read n) := by rw [read_some h]; exact T_put rfl rfl rfl
    rw [hT, T_some h]
    by_cases c : y = x
    · rw [if_pos ⟨c, (fun q => nomatch q)⟩, c, put_same]
    · rw [if_neg (fun q => c q.1), put_ne _ _ c]
theorem read_rest (w : Wd) (x : Bool) (n : Nat) : (w.read x n).road = w.road ∧ (w.read x n).now = w.now ∧ (w.read x n).first = w.first ∧ (w.read x n).wrote = w.wrote ∧ (∀ y, (w.read x n).talk y = none ↔ w.talk y = none) ∧ (w.read x n).cuts = w.cuts := by
  cases h : w.talk x with
  | none => rw [read_none h]; exact ⟨rfl, rfl, rfl, rfl, fun _ => Iff.rfl, rfl⟩
  | some tl =>
    rw [read_some h]
    refine ⟨rfl, rfl, rfl, rfl, fun y => ?_, rfl⟩
    show put w.talk x (some (tl.read n)) y = none ↔ _
    rcases eq_or_not x y with rfl | rfl
    · rw [put_same, h]; exact ⟨(fun q => nomatch q), (fun q => nomatch q)⟩
    · rw [put_not]
structure Alike (a b : Tl) : Prop where
  g : a.g = b.g
  t : a.t = none ↔ b.t = none
  rested : a.rested = b.rested
  ending : a.ending = b.ending
  last : a.last = b.last
theorem Alike.over {a b : Tl} (h : Alike a b) : a.isOver = b.isOver := by
  have e : a.isOver = true ↔ b.isOver = true := by rw [over_iff, over_iff, h.ending, h.g, h.rested, h.last]
  cases q : a.isOver with
  | true => exact (e.mp q).symm
  | false =>
    cases q2 : b.isOver with
    | false => rfl
    | true => rw [e.mpr q2] at q; cases q
theorem read_alike (tl : Tl) (n : Nat) : Alike (tl.read n) tl := ⟨rfl, by unfold Tl.read; exact Option.map_eq_none_iff, rfl, rfl, rfl⟩
theorem Alike.refl (tl : Tl) : Alike tl tl := ⟨rfl, Iff.rfl, rfl, rfl, rfl⟩
theorem reads_facts (w : Wd) : w.reads.road = w.road ∧ w.reads.now = w.now ∧ w.reads.first = w.first ∧ w.reads.wrote = w.wrote ∧ (∀ y, w.reads.talk y = none ↔ w.talk y = none) ∧ w.reads.cuts = w.cuts ∧ (∀ y, Alike (w.reads.T y) (w.T y)) := by
  obtain ⟨a1, a2, a3, a4, a5, a6⟩ := read_rest w false 200
  obtain ⟨b1, b2, b3, b4, b5, b6⟩ := read_rest (w.read false 200) true 200
  refine ⟨b1.trans a1, b2.trans a2, b3.trans a3, b4.trans a4, fun y => (b5 y).trans (a5 y), b6.trans a6, fun y => ?_⟩
  show Alike (((w.read false 200).read true 200).T y) _
  rw [read_T]
  cases y with
  | false =>
    rw [if_neg (fun q => nomatch q.1), read_T]
    split
    · exact read_alike _ _
    · exact Alike.refl _
  | true =>
    split
    · rw [read_T, if_neg (fun q => nomatch q.1)]
      exact read_alike _ _
    · rw [read_T, if_neg (fun q => nomatch q.1)]
      exact Alike.refl _
theorem WInv.reads (I : WInv w) : WInv w.reads := (I.read false 200).read true 200
theorem reads_head (R : Run w) (he : w.empty) : Head w.reads := by
  obtain ⟨a1, a2, a3, a4, a5, a6, a7⟩ := reads_facts w
  refine ⟨R.inv.reads, fun x tl h => ?_, ?_, fun x t h => ?_⟩
  · have hx : w.talk x ≠ none := fun q => by rw [(a5 x).mpr q] at h; cases h
    rw [← T_some h, (a7 x).last, a2]
    exact R.timed x _ (talk_T hx)
  · unfold Wd.empty
    rw [a1]
    exact he
  · have key : ∀ (v : Wd) (x : Bool), WInv v → ∀ t, ((v.read x 200).T x).t = some t → v.talk x ≠ none → t.unread = [] := fun v x I t h hx => by
      rw [read_T, if_pos ⟨rfl, hx⟩] at h
      unfold Tl.read at h
      obtain ⟨u, h1, h2⟩ := Option.map_eq_some_iff.mp h
      have := (I.pair.t x h1).room
      rw [← h2]
      show u.unread.drop 200 = []
      rw [List.drop_eq_nil_iff]
      omega
    have h : (((w.read false 200).read true 200).T x).t = some t := h
    cases x with
    | false =>
      rw [read_T, if_neg (fun q => nomatch q.1)] at h
      exact key w false R.inv t h R.inv.t0
    | true =>
      by_cases hx : w.talk true = none
      · -- nobody is there yet
        have hx' : (w.read false 200).talk true = none := ((read_rest w false 200).2.2.2.2.1 true).mpr hx
        rw [read_T, if_neg (fun q => q.2 hx'), read_T, if_neg (fun q => nomatch q.1)] at h
        have hph : w.T true = w.ph := by unfold Wd.T; rw [hx]
        rw [hph] at h
        cases h
        rfl
      · exact key (w.read false 200) true (R.inv.read false 200) t h (fun q => hx (((read_rest w false 200).2.2.2.2.1 true).mp q))
/-! ### what stays through all comings -/
theorem run_facts (R : Run w) (k : Nat) : (w.run k).now = w.now ∧ (w.run k).first = w.first ∧ (w.run k).wrote = w.wrote ∧ (w.run k).cuts = w.cuts := by
  have P := (run_ind (P := fun v => v.now = w.now ∧ v.first = w.first ∧ v.wrote = w.wrote ∧ v.cuts = w.cuts) (fun v z s r Rv hr hz hv => by
    obtain ⟨c1, c2, c3, c4⟩ := come_now ({ v with road := put v.road z r } : Wd) z s
    refine ⟨c1.trans hv.1, c2.trans hv.2.1, c3.trans hv.2.2.1, ?_⟩
    have hc := Rv.noc z s (by rw [hr]; exact List.mem_cons_self ..)
    refine Eq.trans ?_ hv.2.2.2
    have e : (v.cuts || s.c) = v.cuts := by rw [hc]; simp
    unfold Wd.come
    split
    · exact e
    · split
      · exact e
      · exact e) k R ⟨rfl, rfl, rfl, rfl⟩).2
  exact P
theorem run_talk (R : Run w) (k : Nat) (x : Bool) (h : w.talk x ≠ none) : (w.run k).talk x ≠ none := by
  have P := (run_ind (P := fun v => v.talk x ≠ none) (fun v z s r Rv hr hz hv => by
    unfold Wd.come
    split
    · exact put_isSome hv
    · split
      · exact put_isSome hv
      · exact hv) k R h).2
  exact P
theorem run_dead (R : Run w) (hb : w.talk true ≠ none) (k : Nat) (x : Bool) (h : (w.T x).isOver = true) : ((w.run k).T x).isOver = true := by
  have P := (run_ind (P := fun v => v.talk true ≠ none ∧ (v.T x).isOver = true) (fun v z s r Rv hr hz hv => by
    obtain ⟨c1, c2, c3, _⟩ := come_both Rv hv.1 hr
    refine ⟨c3, ?_⟩
    rw [c1]
    rcases eq_or_not x z with rfl | rfl
    · rw [put_same, (Rv.heard_over (both_talk Rv hv.1 z) hv.2).1]; exact hv.2
    · rw [put_not']; exact hv.2) k R ⟨hb, h⟩).2
  exact P.2
theorem run_t (R : Run w) (hb : w.talk true ≠ none) (k : Nat) (x : Bool) (h : (w.T x).t ≠ none) : ((w.run k).T x).t ≠ none := by
  have P := (run_ind (P := fun v => v.talk true ≠ none ∧ (v.T x).t ≠ none) (fun v z s r Rv hr hz hv => by
    obtain ⟨c1, c2, c3, _⟩ := come_both Rv hv.1 hr
    refine ⟨c3, ?_⟩
    rw [c1]
    rcases eq_or_not x z with rfl | rfl
    · rw [put_same]; exact t_stays _ _ _ hv.2
    · rw [put_not']; exact hv.2) k R ⟨hb, h⟩).2
  exact P.2
theorem run_passed (R : Run w) (hb : w.talk true ≠ none) (k : Nat) (x : Bool) : (w.T x).g.passed ≤ ((w.run k).T x).g.passed := by
  have P := (run_ind (P := fun v => v.talk true ≠ none ∧ (w.T x).g.passed ≤ (v.T x).g.passed) (fun v z s r Rv hr hz hv => by
    obtain ⟨c1, c2, c3, _⟩ := come_both Rv hv.1 hr
    refine ⟨c3, ?_⟩
    rw [c1]
    rcases eq_or_not x z with rfl | rfl
    · rw [put_same]; exact Nat.le_trans hv.2 (Rv.passed_le hr (both_talk Rv hv.1 z)).1
    · rw [put_not']; exact hv.2) k R ⟨hb, Nat.le_refl _⟩).2
  exact P.2
/-- none rests ahead: who rests, rests from now on -/
theorem run_rested (R : Run w) (k : Nat) (h : ∀ x, (w.T x).rested = none) : ∀ x s, ((w.run k).T x).rested = some s → s = (w.run k).now := by
  have P := (run_ind (P := fun v => ∀ x s, (v.T x).rested = some s → s = v.now) (fun v z s r Rv hr hz hv => by
    intro x s' e
    rw [(come_now ({ v with road := put v.road z r } : Wd) z s).1]
    show s' = v.now
    cases ht : v.talk z with
    | some tl =>
      obtain ⟨c1, _⟩ := come_T (s := s) (r := r) ht
      rw [c1] at e
      rcases eq_or_not z x with rfl | rfl
      · rw [put_same] at e
        rcases heard_rested tl s v.now with q | ⟨_, q⟩
        · rw [q, ← T_some ht] at e; exact hv x s' e
        · rw [q] at e; cases e; rfl
      · rw [put_not] at e; exact hv _ s' e
    | none =>
      have hz : z = true := by
        cases z with
        | true => rfl
        | false => exact absurd ht Rv.inv.t0
      subst hz
      by_cases c : s.o = true ∧ s.a = false ∧ s.c = false
      · have e1 : (({ v with road := put v.road true r } : Wd).come true s) = ({ v with road := put v.road true r } : Wd).bear s := come_begin (w := { v with road := put v.road true r }) ht c
        have hT : (({ v with road := put v.road true r } : Wd).bear s).T = put v.T true (.new (v.port true) (v.port false) (v.first true) v.now (some s.number)) := T_put rfl rfl rfl
        rw [e1, hT] at e
        cases x with
        | false => exact hv false s' e
        | true => rw [put_same] at e; cases e
      · have e1 : (({ v with road := put v.road true r } : Wd).come true s) = ({ v with road := put v.road true r } : Wd).seen s := come_none (w := { v with road := put v.road true r }) ht c
        have hT : (({ v with road := put v.road true r } : Wd).seen s).T = v.T := T_keep rfl rfl rfl
        rw [e1, hT] at e
        exact hv x s' e) k R (fun x s e => by rw [h] at e; cases e)).2
  exact P
/-! ### all is answered -/
theorem slen_fin {wr : List Nat} {fin : Bool} (h : wr.length + 2 ≤ slen wr fin) : fin = true ∧ slen wr fin = wr.length + 2 := by
  unfold slen at *
  cases fin with
  | true => exact ⟨rfl, by simp⟩
  | false => simp at h
theorem passed_le_len (I : WInv w) (x : Bool) : (w.T x).g.passed ≤ len w x := by
  have := (I.pair.g x).ple
  have := slen_le (w.wrote x) (w.T x).g.fin
  unfold len
  omega
theorem all_answered (I : WInv w) (x : Bool) (h1 : (w.T x).g.passed = len w x) (h2 : (w.T !x).g.passed = len w (!x)) : (w.T x).rested ≠ none := by
  have gx := I.pair.g x
  have gy := I.pair.g !x
  obtain ⟨f1, f2⟩ := slen_fin (wr := w.wrote x) (fin := (w.T x).g.fin) (by have := gx.ple; unfold len at h1; omega)
  obtain ⟨f3, f4⟩ := slen_fin (wr := w.wrote !x) (fin := (w.T !x).g.fin) (by have := gy.ple; unfold len at h2; omega)
  have hk : (w.T x).g.kept = [] := List.eq_nil_of_length_eq_zero (by rw [gx.klen, f2]; unfold len at h1; omega)
  have hans := I.pair.core.ans !x
  rw [nn] at hans
  have hans : (w.T !x).g.passed ≤ wof (w.first !x) (w.T x).t := hans
  have ht : ∃ t, (w.T x).t = some t := by
    cases e : (w.T x).t with
    | some t => exact ⟨t, rfl⟩
    | none =>
      rw [e] at hans
      have hans : (w.T !x).g.passed ≤ 0 := hans
      unfold len at h2
      omega
  obtain ⟨t, ht⟩ := ht
  have hT := I.pair.t x ht
  rw [ht] at hans
  have hans : (w.T !x).g.passed ≤ far (w.first !x) t.wanted := hans
  have hwh := hT.wh
  have hle := hT.hile
  have hov : t.over = true := hT.over.mpr ⟨f3, by unfold len at h2; omega⟩
  rw [(I.pair.ok x).rs]
  refine ⟨by rw [(I.pair.ok x).fin]; exact f1, ?_, hk⟩
  unfold Tl.tover
  rw [ht]
  exact hov
theorem rested_answered (I : WInv w) (x : Bool) {s : Nat} (h : (w.T x).rested = some s) : (w.T x).g.passed = len w x ∧ (w.T x).tover = true ∧ wof (w.first !x) (w.T x).t = len w (!x) ∧ s ≤ w.now := by
  obtain ⟨h1, h2, h3⟩ := (I.pair.ok x).rs.mp (by rw [h]; exact fun q => nomatch q)
  have gx := I.pair.g x
  have hf : (w.T x).g.fin = true := by rw [← (I.pair.ok x).fin]; exact h1
  have hk := gx.klen
  rw [h3, hf] at hk
  have hp := gx.ple
  rw [hf] at hp
  have hs : slen (w.wrote x) true = (w.wrote x).length + 2 := by unfold slen; simp
  refine ⟨?_, h2, ?_, (I.pair.ok x).rl s h⟩
  · unfold len
    have hk : 0 = slen (w.wrote x) true - (w.T x).g.passed := hk
    omega
  · unfold Tl.tover at h2
    cases e : (w.T x).t with
    | none => rw [e] at h2; cases h2
    | some t =>
      rw [e] at h2
      exact ((I.pair.t x e).over.mp h2).2
/-! ### the stages of the ending -/
inductive Phase (T0 : Nat) (w : Wd) : Prop
  | A (h : w.talk true = none) (b : w.now + (w.T false).g.q w.now ≤ T0 + 66)
  | B (hb : w.talk true ≠ none) (ht : (w.T false).t = none) (b : w.now + (w.T true).g.q w.now ≤ T0 + 133)
  | C (hb : w.talk true ≠ none) (ht : ∀ x, (w.T x).t ≠ none) (nc : ∀ x, (w.T x).isOver = false)
      (b : ∀ x, (w.T x).g.passed < len w x → w.now + 67 * (len w x - (w.T x).g.passed) + (w.T x).g.q w.now ≤ T0 + 67 * len w x + 200)
      (rs : ∀ x s, (w.T x).rested = some s → s ≤ T0 + CC w) (rr : ∀ x s, (w.T x).rested = some s → (w.T !x).g.passed < len w (!x) → w.now + (w.T !x).g.q w.now ≤ max T0 s + 66)
  | D (y : Bool) (hb : w.talk true ≠ none) (hy : (w.T y).isOver = true) (hx : (w.T !y).isOver = false) (h : (w.T !y).g.passed < len w (!y)) (b : w.now + (w.T !y).g.psi w.now ≤ T0 + 1189) (t : 0 < T0)
  | E (y : Bool) (s : Nat) (hb : w.talk true ≠ none) (hy : (w.T y).isOver = true) (hx : (w.T !y).isOver = false) (h : (w.T !y).rested = some s) (b : s ≤ T0 + CC w)
theorem psi_le (I : WInv w) (x : Bool) : (w.T x).g.psi w.now ≤ 1122 := by
  have := ((I.pair.g x).q2_le).1
  unfold Gv.psi
  omega
theorem not_over_rested (Hd : Head w) (x : Bool) (hx : w.talk x ≠ none) (h : (w.T x).isOver = false) {s : Nat} (hr : (w.T x).rested = some s) : w.now < s + 120 := by
  by_cases c : w.now < s + 120
  · exact c
  exfalso
  have : (w.T x).isOver = true := by
    rw [over_iff]
    right
    refine ⟨?_, s, hr, by rw [Hd.timed x _ (talk_T hx)]; omega⟩
    have := (rested_answered Hd.inv x hr).1
    unfold len at this
    omega
  rw [this] at h
  cases h
theorem phase_bound {T0 : Nat} (Hd : Head w) (P : Phase T0 w) : w.now ≤ T0 + ((w.wrote false).length + (w.wrote true).length + 12) * 100 := by
  cases P with
  | A h b => omega
  | B hb ht b => omega
  | C hb ht nc b rs rr =>
    have hx : ∀ y, w.talk y ≠ none := fun y => by cases y; exact Hd.inv.t0; exact hb
    by_cases c : ∃ x, (w.T x).g.passed < len w x
    · obtain ⟨x, c⟩ := c
      have := b x c
      have h2 : len w x ≤ (w.wrote false).length + (w.wrote true).length + 2 := by unfold len; cases x <;> omega
      omega
    · have hp : ∀ x, (w.T x).g.passed = len w x := fun x => by
        have := passed_le_len Hd.inv x
        by_cases q : (w.T x).g.passed < len w x
        · exact absurd ⟨x, q⟩ c
        · omega
      obtain ⟨s, hs⟩ := Option.ne_none_iff_exists'.mp (all_answered Hd.inv false (hp _) (hp _))
      have h1 := not_over_rested Hd false (hx _) (nc _) hs
      have h2 := rs false s hs
      unfold CC at h2
      omega
  | D y hb hy hx h b t => omega
  | E y s hb hy hx h b =>
    have hx' : ∀ y, w.talk y ≠ none := fun y => by cases y; exact Hd.inv.t0; exact hb
    have h1 := not_over_rested Hd (!y) (hx' _) hx h
    unfold CC at b
    omega
theorem phase_start (Hd : Head w) (hE : ¬ Ended w) : Phase w.now w := by
  by_cases hb : w.talk true = none
  · exact .A hb (by have := (Hd.inv.pair.g false).q_le; have : (w.T false).g.q w.now ≤ 66 := this; omega)
  have hx : ∀ y, w.talk y ≠ none := fun y => by cases y; exact Hd.inv.t0; exact hb
  have hq : ∀ x, (w.T x).g.q w.now ≤ 66 := fun x => (Hd.inv.pair.g x).q_le
  by_cases ht : (w.T false).t = none
  · exact .B hb ht (by have := hq true; omega)
  have htt : ∀ x, (w.T x).t ≠ none := fun x => by cases x; exact ht; exact Hd.inv.pair.core.k1
  by_cases ho : ∃ y, (w.T y).isOver = true
  · obtain ⟨y, ho⟩ := ho
    have hn := not_both Hd.inv hE hb y ho
    by_cases c : (w.T !y).g.passed < len w (!y)
    · refine .D y hb ho hn c (by have := psi_le Hd.inv (!y); omega) ?_
      have hno := no_of Hd.inv hE y (hx y)
      rcases (over_iff _).mp ho with q | ⟨_, s, _, q⟩
      · exact absurd hno q
      · rw [Hd.timed y _ (talk_T (hx y))] at q; omega
    · have hp : (w.T !y).g.passed = len w (!y) := by have := passed_le_len Hd.inv (!y); omega
      have hy : (w.T y).g.passed = len w y := by
        have hno := no_of Hd.inv hE y (hx y)
        rcases (over_iff _).mp ho with q | ⟨_, s, q, _⟩
        · exact absurd hno q
        · exact (rested_answered Hd.inv y q).1
      obtain ⟨s, hs⟩ := Option.ne_none_iff_exists'.mp (all_answered Hd.inv (!y) hp (by rw [nn]; exact hy))
      refine .E y s hb ho hn hs ?_
      have := (rested_answered Hd.inv (!y) hs).2.2.2
      omega
  · have hno : ∀ x, (w.T x).isOver = false := fun x => by
      cases e : (w.T x).isOver with
      | false => rfl
      | true => exact absurd ⟨x, e⟩ ho
    refine .C hb htt hno (fun x hp => ?_) (fun x s hs => ?_) (fun x s hs hp => ?_)
    · have := hq x; omega
    · have := (rested_answered Hd.inv x hs).2.2.2; omega
    · have := hq !x; omega
/-- behind a tick and all comings -/
structure Nx (w v : Wd) : Prop where
  hd : Head v
  now : v.now = w.now + 1
  first : v.first = w.first
  wrote : v.wrote = w.wrote
theorem enterC {T0 : Nat} {v : Wd} (Hd : Head v) (hE : ¬ Ended v) (hb : v.talk true ≠ none) (ht : ∀ x, (v.T x).t ≠ none) (hn : v.now ≤ T0 + 134) (h0 : T0 ≤ v.now) (hr : ∀ x s, (v.T x).rested = some s → s = v.now) : Phase T0 v := by
  have hx : ∀ y, v.talk y ≠ none := fun y => by cases y; exact Hd.inv.t0; exact hb
  have hq : ∀ x, (v.T x).g.q v.now ≤ 66 := fun x => (Hd.inv.pair.g x).q_le
  refine .C hb ht (fun x => ?_) (fun x hp => ?_) (fun x s hs => ?_) (fun x s hs hp => ?_)
  · cases e : (v.T x).isOver with
    | false => rfl
    | true =>
      exfalso
      have hno := no_of Hd.inv hE x (hx x)
      rcases (over_iff _).mp e with q | ⟨_, s, q1, q2⟩
      · exact q hno
      · have := hr x s q1
        rw [Hd.timed x _ (talk_T (hx x))] at q2
        omega
  · have := hq x; omega
  · have := hr x s hs; unfold CC; omega
  · have := hq !x
    have := hr x s hs
    omega
end
end SW
end
section
/-! From one tick of the ending stage to the next. -/
namespace SW
section
variable {w : Wd}
theorem fins_rested (w : Wd) (x : Bool) : (w.tick.T x).rested = (w.T x).rested ∧ (w.tick.T x).t = (w.T x).t ∧ (w.tick.T x).g.passed = (w.T x).g.passed := by
  obtain ⟨_, _, _, _, _, _, _, a8, _⟩ := tick_facts w
  rw [a8]
  have hf : (w.T x).finish.rested = (w.T x).rested ∧ (w.T x).finish.t = (w.T x).t ∧ (w.T x).finish.g.passed = (w.T x).g.passed := by
    unfold Tl.finish
    split <;> exact ⟨rfl, rfl, rfl⟩
  split
  · obtain ⟨d1, d2, _, d4, _⟩ := due_keeps (w.T x).finish (w.now + 1)
    exact ⟨by rw [d2]; exact hf.1, by rw [d1]; exact hf.2.1, by rw [d4]; exact hf.2.2⟩
  · exact ⟨rfl, rfl, rfl⟩
theorem over_tick (Hd : Head w) (x : Bool) (hx : w.talk x ≠ none) (h : (w.T x).isOver = true) : (w.tick.T x).isOver = true ∧ w.tick.road (!x) = [] := by
  obtain ⟨_, _, _, _, _, _, _, a8, a9⟩ := tick_facts w
  have hlast : (w.T x).last ≤ w.now + 1 := Nat.le_succ_of_le (Hd.inv.pair.ok x).last
  have ho : ((w.T x).at_ (w.now + 1)).isOver = true := over_later hlast h
  have he : w.road (!x) = [] := by cases x; exact Hd.empty.2; exact Hd.empty.1
  rw [a8, a9, if_pos hx, if_pos hx, finish_over h, he]
  unfold Tl.due Tl.dueOut
  rw [if_pos ho, if_pos ho]
  exact ⟨ho, rfl⟩
/-- nothing is heard where the other is at its end -/
theorem run_still {v : Wd} (R : Run v) (hb : v.talk true ≠ none) (y : Bool) (h : (v.T y).isOver = true) (hr : v.road (!y) = []) (k : Nat) : (v.run k).T (!y) = v.T (!y) := by
  have P := (run_ind (P := fun u => u.talk true ≠ none ∧ (u.T y).isOver = true ∧ u.road (!y) = [] ∧ u.T (!y) = v.T (!y)) (fun u z s r Ru hz hzz hu => by
    obtain ⟨h1, h2, h3, h4⟩ := hu
    obtain ⟨c1, c2, c3, _⟩ := come_both Ru h1 hz
    rcases eq_or_not y z with rfl | rfl
    · obtain ⟨o1, o2⟩ := Ru.heard_over (both_talk Ru h1 z) h2 (s := s)
      refine ⟨c3, ?_, ?_, ?_⟩
      · rw [c1, put_same, o1]; exact h2
      · rw [c2, put_same, o2, List.append_nil]; exact h3
      · rw [c1, put_not]; exact h4
    · rw [h3] at hz; cases hz) k R ⟨hb, h, hr, rfl⟩).2
  exact P.2.2.2
theorem len_eq {w v : Wd} (h : v.wrote = w.wrote) (x : Bool) : len v x = len w x ∧ CC v = CC w := by
  unfold len CC
  rw [h]
  exact ⟨rfl, rfl⟩
theorem phase_next {T0 : Nat} (Hd : Head w) (hE : ¬ Ended w) (P : Phase T0 w) (h0 : T0 ≤ w.now) (k : Nat) (he : (w.tick.run k).empty) (hE' : ¬ Ended (w.tick.run k).reads) : Phase T0 (w.tick.run k).reads := by
  have R := Hd.run
  obtain ⟨a1, a2, a3, a4, a5, a6, a7, a8, a9⟩ := tick_facts w
  obtain ⟨r1, r2, r3, r4⟩ := run_facts R k
  obtain ⟨b1, b2, b3, b4, b5, b6, b7⟩ := reads_facts (w.tick.run k)
  have Rv : Run (w.tick.run k) := (run_ind (P := fun _ => True) (fun _ _ _ _ _ _ _ _ => trivial) k R trivial).1
  have Hd' : Head (w.tick.run k).reads := reads_head Rv he
  have hnow : (w.tick.run k).reads.now = w.now + 1 := b2.trans (r1.trans a1)
  have hnowv : (w.tick.run k).now = w.now + 1 := r1.trans a1
  have hwr : (w.tick.run k).reads.wrote = w.wrote := b4.trans (r3.trans a3)
  have hlen : ∀ x, len (w.tick.run k).reads x = len w x := fun x => (len_eq hwr x).1
  have hCC : CC (w.tick.run k).reads = CC w := (len_eq hwr true).2
  have hov : ∀ x, ((w.tick.run k).reads.T x).isOver = ((w.tick.run k).T x).isOver := fun x => (b7 x).over
  have hg : ∀ x, ((w.tick.run k).reads.T x).g = ((w.tick.run k).T x).g := fun x => (b7 x).g
  have hq : ∀ x, ((w.tick.run k).reads.T x).g.q (w.tick.run k).reads.now ≤ 66 := fun x => (Hd'.inv.pair.g x).q_le
  have hno : ∀ x, (w.tick.run k).reads.talk x ≠ none → ((w.tick.run k).reads.T x).ending = .no := fun x hx => no_of Hd'.inv hE' x hx
  -- where it is over now, it rested ahead
  have closed : ∀ x, (w.tick.run k).reads.talk x ≠ none → ((w.tick.run k).reads.T x).isOver = true → ∃ s, ((w.tick.run k).reads.T x).rested = some s ∧ s + 120 ≤ w.now + 1 := fun x hx h => by
    rcases (over_iff _).mp h with q | ⟨_, s, q1, q2⟩
    · exact absurd (hno x hx) q
    · rw [Hd'.timed x _ (talk_T hx), hnow] at q2
      exact ⟨s, q1, q2⟩
  cases P with
  | A h b =>
    have l1 := (Hd.inv.lone h).1
    have hph : w.T true = w.ph := by unfold Wd.T; rw [h]
    have hrest : ∀ x s, ((w.tick.run k).reads.T x).rested = some s → s = (w.tick.run k).reads.now := fun x s e => by
      rw [(b7 x).rested] at e
      rw [b2]
      refine run_rested R k (fun x => ?_) x s e
      rw [(fins_rested w x).1]
      cases x with
      | true => rw [hph]; rfl
      | false =>
        cases q : (w.T false).rested with
        | none => rfl
        | some s =>
          have := (rested_answered Hd.inv false q).2.1
          unfold Tl.tover at this
          rw [l1] at this
          cases this
    by_cases hb' : (w.tick.run k).reads.talk true = none
    · refine .A hb' ?_
      rcases lonely Hd h k he with q | q | q
      · exact absurd ((b5 true).mp hb') q
      · exfalso
        rw [← hov] at q
        obtain ⟨s, s1, s2⟩ := closed false Hd'.inv.t0 q
        have := hrest false s s1
        omega
      · rw [hg, hnow]; omega
    · by_cases ht : ((w.tick.run k).reads.T false).t = none
      · exact .B hb' ht (by have := hq true; omega)
      · exact enterC Hd' hE' hb' (fun x => by cases x; exact ht; exact Hd'.inv.pair.core.k1) (by omega) (by omega) hrest
  | B hb ht b =>
    have hbt : w.tick.talk true ≠ none := fun q => hb ((a5 true).mp q)
    have hb' : (w.tick.run k).reads.talk true ≠ none := fun q => run_talk R k true hbt ((b5 true).mp q)
    have hx' : ∀ y, (w.tick.run k).reads.talk y ≠ none := fun y => by cases y; exact Hd'.inv.t0; exact hb'
    have hz : (w.T true).g.passed = 0 := by
      have := Hd.inv.pair.core.ans true
      have this : (w.T true).g.passed ≤ wof (w.first true) (w.T false).t := this
      rw [ht] at this
      have this : (w.T true).g.passed ≤ 0 := this
      omega
    have hrest : ∀ x s, ((w.tick.run k).reads.T x).rested = some s → s = (w.tick.run k).reads.now := fun x s e => by
      rw [(b7 x).rested] at e
      rw [b2]
      refine run_rested R k (fun x => ?_) x s e
      rw [(fins_rested w x).1]
      cases x with
      | true =>
        cases q : (w.T true).rested with
        | none => rfl
        | some s =>
          have := (rested_answered Hd.inv true q).1
          unfold len at this
          omega
      | false =>
        cases q : (w.T false).rested with
        | none => rfl
        | some s =>
          have := (rested_answered Hd.inv false q).2.1
          unfold Tl.tover at this
          rw [ht] at this
          cases this
    have notover : ∀ x, ((w.tick.run k).T x).isOver ≠ true := fun x q => by
      rw [← hov] at q
      obtain ⟨s, s1, s2⟩ := closed x (hx' x) q
      have := hrest x s s1
      omega
    by_cases ht' : ((w.tick.run k).reads.T false).t = none
    · refine .B hb' ht' ?_
      rcases progress Hd true hb Hd.inv.pair.core.k1 (by omega) k he with q | q | q | q
      · exact absurd q (notover _)
      · exact absurd q (notover _)
      · exfalso
        have h1 := Rv.inv.pair.open_of true (by omega)
        exact h1 ((b7 false).t.mp ht')
      · rw [hg, hnow]; omega
    · exact enterC Hd' hE' hb' (fun x => by cases x; exact ht'; exact Hd'.inv.pair.core.k1) (by omega) (by omega) hrest
  | C hb ht nc b rs rr =>
    have hbt : w.tick.talk true ≠ none := fun q => hb ((a5 true).mp q)
    have hb' : (w.tick.run k).reads.talk true ≠ none := fun q => run_talk R k true hbt ((b5 true).mp q)
    have hx : ∀ y, w.talk y ≠ none := fun y => by cases y; exact Hd.inv.t0; exact hb
    have hx' : ∀ y, (w.tick.run k).reads.talk y ≠ none := fun y => by cases y; exact Hd'.inv.t0; exact hb'
    have htt : ∀ x, ((w.tick.run k).reads.T x).t ≠ none := fun x q => run_t R hbt k x (by rw [(fins_rested w x).2.1]; exact ht x) ((b7 x).t.mp q)
    have hpas : ∀ x, (w.T x).g.passed ≤ ((w.tick.run k).T x).g.passed := fun x => by
      have := run_passed R hbt k x
      rw [(fins_rested w x).2.2] at this
      exact this
    -- who rests now rested ahead, or rests from now on
    have hrest : ∀ x, ((w.tick.run k).reads.T x).rested = (w.T x).rested ∨ ((w.T x).rested = none ∧ ((w.tick.run k).reads.T x).rested = some (w.now + 1)) := fun x => by
      rw [(b7 x).rested]
      have J0 : J6 x (w.T x).rested w.tick := ⟨talk_T (fun q => hx x ((a5 x).mp q)), .inl (fins_rested w x).1⟩
      have J := (run_ind (J6.step x _) k R J0).2.j
      rw [hnowv] at J
      exact J
    have hnew : ∀ x, (w.T x).rested = none → w.now + 1 ≤ T0 + CC w := fun x hn => by
      by_cases c : ∃ z, (w.T z).g.passed < len w z
      · obtain ⟨z, c⟩ := c
        have := b z c
        have h2 : len w z ≤ (w.wrote false).length + (w.wrote true).length + 2 := by unfold len; cases z <;> omega
        unfold CC
        omega
      · exfalso
        have hp : ∀ x, (w.T x).g.passed = len w x := fun x => by
          have := passed_le_len Hd.inv x
          by_cases q : (w.T x).g.passed < len w x
          · exact absurd ⟨x, q⟩ c
          · omega
        exact all_answered Hd.inv x (hp _) (hp _) hn
    have hrs : ∀ x s, ((w.tick.run k).reads.T x).rested = some s → s ≤ T0 + CC w := fun x s e => by
      rcases hrest x with q | ⟨q1, q2⟩
      · rw [q] at e; exact rs x s e
      · rw [q2] at e; cases e; exact hnew x q1
    have prog : ∀ x, (w.T x).g.passed < len w x → ((w.tick.run k).T x).isOver = true ∨ ((w.tick.run k).T !x).isOver = true ∨ (w.T x).g.passed < ((w.tick.run k).T x).g.passed ∨ ((w.tick.run k).T x).g.q (w.now + 1) < (w.T x).g.q w.now := fun x hp => progress Hd x hb (ht x) hp k he
    -- where the other rests, what goes on is all
    have whole : ∀ x s, (w.T x).rested = some s → (w.T !x).g.passed < ((w.tick.run k).T !x).g.passed → ((w.tick.run k).T !x).g.passed = len w (!x) := fun x s hs hlt => by
      obtain ⟨q1, q2, q3, q4⟩ := rested_answered Hd.inv x hs
      have J0 : J5 (!x) (w.T !x).g.passed (len w !x) w.tick := by
        refine ⟨hbt, ?_, ?_, fun s hs ha => ?_, .inl (fins_rested w !x).2.2⟩
        · rw [nn]; unfold Tl.tover; rw [(fins_rested w x).2.1]; exact q2
        · rw [nn, a2, (fins_rested w x).2.1]; exact q3
        · have q := a9 x
          have he0 : w.road (!x) = [] := by cases x; exact Hd.empty.2; exact Hd.empty.1
          rw [he0, List.nil_append, if_pos (hx x)] at q
          rw [q] at hs
          obtain ⟨t, t1, t2⟩ := (dueOut_ans _ _ s hs).2 ha
          rw [a2, t2]
          have t1 : (w.T x).t = some t := by
            have : (w.T x).finish.t = (w.T x).t := by unfold Tl.finish; split <;> rfl
            rw [← this]; exact t1
          rw [t1] at q3
          exact q3
      have J := (run_ind (J5.step (!x) _ _) k R J0).2.p
      rcases J with J | J
      · omega
      · exact J
    by_cases ho : ∃ y, ((w.tick.run k).reads.T y).isOver = true
    · obtain ⟨y, ho⟩ := ho
      have hn' := not_both Hd'.inv hE' hb' y ho
      obtain ⟨s, s1, s2⟩ := closed y (hx' y) ho
      have hs : (w.T y).rested = some s := by
        rcases hrest y with q | ⟨_, q⟩
        · rw [← q]; exact s1
        · rw [q] at s1; cases s1; omega
      have hlt := not_over_rested Hd y (hx y) (nc y) hs
      by_cases hp : ((w.tick.run k).reads.T !y).g.passed < len (w.tick.run k).reads (!y)
      · rw [hlen, hg] at hp
        have h2 := rr y s hs (Nat.lt_of_le_of_lt (hpas (!y)) hp)
        refine .D y hb' ho hn' (by rw [hlen, hg]; exact hp) ?_ ?_
        · have := psi_le Hd'.inv (!y)
          omega
        · omega
      · have hpe : ((w.tick.run k).reads.T !y).g.passed = len (w.tick.run k).reads (!y) := by have := passed_le_len Hd'.inv (!y); omega
        have hpy := (rested_answered Hd'.inv y s1).1
        obtain ⟨s', hs'⟩ := Option.ne_none_iff_exists'.mp (all_answered Hd'.inv (!y) hpe (by rw [nn]; exact hpy))
        exact .E y s' hb' ho hn' hs' (by rw [hCC]; exact hrs _ _ hs')
    · have hno' : ∀ x, ((w.tick.run k).reads.T x).isOver = false := fun x => by
        cases e : ((w.tick.run k).reads.T x).isOver with
        | false => rfl
        | true => exact absurd ⟨x, e⟩ ho
      have hnv : ∀ x, ((w.tick.run k).T x).isOver ≠ true := fun x q => by rw [← hov, hno'] at q; cases q
      refine .C hb' htt hno' (fun x hp => ?_) (fun x s e => by rw [hCC]; exact hrs x s e) (fun x s e hp => ?_)
      · rw [hlen, hg] at hp
        rw [hlen, hg, hnow]
        have hp0 := Nat.lt_of_le_of_lt (hpas x) hp
        have hb0 := b x hp0
        have hmono := hpas x
        have hq66 := hq x
        rw [hg, hnow] at hq66
        rcases prog x hp0 with q | q | q | q
        · exact absurd q (hnv _)
        · exact absurd q (hnv _)
        · have : 67 * (len w x - ((w.tick.run k).T x).g.passed) + 67 ≤ 67 * (len w x - (w.T x).g.passed) := by omega
          omega
        · have : 67 * (len w x - ((w.tick.run k).T x).g.passed) ≤ 67 * (len w x - (w.T x).g.passed) := by omega
          omega
      · rw [hlen, hg] at hp
        rw [hg, hnow]
        have hq66 := hq (!x)
        rw [hg, hnow] at hq66
        have hp0 := Nat.lt_of_le_of_lt (hpas (!x)) hp
        rcases hrest x with q | ⟨q1, q2⟩
        · rw [q] at e
          have h2 := rr x s e hp0
          rcases prog (!x) hp0 with q | q | q | q
          · exact absurd q (hnv _)
          · exact absurd q (hnv _)
          · have := whole x s e q
            omega
          · omega
        · rw [q2] at e
          cases e
          omega
  | D y hb hy hx h b t =>
    have hbt : w.tick.talk true ≠ none := fun q => hb ((a5 true).mp q)
    have hb' : (w.tick.run k).reads.talk true ≠ none := fun q => run_talk R k true hbt ((b5 true).mp q)
    have hxx : ∀ y, w.talk y ≠ none := fun y => by cases y; exact Hd.inv.t0; exact hb
    obtain ⟨o1, o2⟩ := over_tick Hd y (hxx y) hy
    have hyv : ((w.tick.run k).reads.T y).isOver = true := by rw [hov]; exact run_dead R hbt k y o1
    have hn' := not_both Hd'.inv hE' hb' y hyv
    have hst := run_still R hbt y o1 o2 k
    rcases Hd.fin (!y) (hxx _) with ho | F
    · exfalso
      rw [hov, hst, ho] at hn'
      cases hn'
    · obtain ⟨f1, f2, f3, f4, f5, f6⟩ := F.facts
      refine .D y hb' hyv hn' (by rw [hlen, hg, hst, f4]; exact h) ?_ t
      rw [hg, hst, f1, hnow]
      have hG : GInv (w.first !y) (w.wrote !y) w.now (w.T !y).g.finish := (Hd.inv.pair.g !y).finish
      have h1 := due_psi hG (F.kept h) F.few
      have h2 : (w.T !y).g.finish.psi w.now = (w.T !y).g.psi w.now := rfl
      omega
  | E y s hb hy hx h b =>
    have hbt : w.tick.talk true ≠ none := fun q => hb ((a5 true).mp q)
    have hb' : (w.tick.run k).reads.talk true ≠ none := fun q => run_talk R k true hbt ((b5 true).mp q)
    have hxx : ∀ y, w.talk y ≠ none := fun y => by cases y; exact Hd.inv.t0; exact hb
    obtain ⟨o1, o2⟩ := over_tick Hd y (hxx y) hy
    have hyv : ((w.tick.run k).reads.T y).isOver = true := by rw [hov]; exact run_dead R hbt k y o1
    have hn' := not_both Hd'.inv hE' hb' y hyv
    have hst := run_still R hbt y o1 o2 k
    refine .E y s hb' hyv hn' ?_ (by rw [hCC]; exact b)
    rw [(b7 (!y)).rested, hst, (fins_rested w !y).1]
    exact h
end
end SW
end
section
/-! What the law leans on: the loops' invariants. -/
namespace SW
section
variable {w : Wd}
theorem timed_come {w : Wd} (I : WInv w) (h : Timed w) (x : Bool) (s : Sg) (road' : Bool → List Sg) : Timed (({ w with road := road' } : Wd).come x s) := by
  intro y tl e
  rw [(come_now ({ w with road := road' } : Wd) x s).1]
  show tl.last = w.now
  cases ht : w.talk x with
  | some tx =>
    have e1 : (({ w with road := road' } : Wd).come x s).talk = put w.talk x (some (tx.heard s w.now)) := by rw [come_some (w := { w with road := road' }) ht]; rfl
    rw [e1] at e
    rcases eq_or_not x y with rfl | rfl
    · rw [put_same] at e; cases e; exact last_heard _ _ _
    · rw [put_not] at e; exact h _ _ e
  | none =>
    have hx : x = true := by
      cases x with
      | true => rfl
      | false => exact absurd ht I.t0
    subst hx
    by_cases c : s.o = true ∧ s.a = false ∧ s.c = false
    · have e1 : (({ w with road := road' } : Wd).come true s).talk = put w.talk true (some (.new (w.port true) (w.port false) (w.first true) w.now (some s.number))) := by rw [come_begin (w := { w with road := road' }) ht c]; rfl
      rw [e1] at e
      cases y with
      | false => exact h false tl e
      | true => rw [put_same] at e; cases e; rfl
    · have e1 : (({ w with road := road' } : Wd).come true s).talk = w.talk := by rw [come_none (w := { w with road := road' }) ht c]; rfl
      rw [e1] at e
      exact h y tl e
theorem timed_step (I : WInv w) (h : Timed w) : Timed w.step := by
  unfold Wd.step
  cases e : w.road false with
  | cons s r => exact timed_come I h false s _
  | nil =>
    cases e2 : w.road true with
    | cons s r => exact timed_come I h true s _
    | nil => exact h
theorem run_inv (I : WInv w) (h : Timed w) : ∀ k, WInv (w.run k) ∧ Timed (w.run k)
  | 0 => ⟨I, h⟩
  | k + 1 => by
    obtain ⟨h1, h2⟩ := run_inv I h k
    exact ⟨h1.step, timed_step h1 h2⟩
theorem head_of (I : WInv w) (h : Timed w) (he : w.empty) : Head w.reads := by
  obtain ⟨a1, a2, a3, a4, a5, a6, a7⟩ := reads_facts w
  refine ⟨I.reads, fun x tl e => ?_, ?_, fun x t e => ?_⟩
  · have hx : w.talk x ≠ none := fun q => by rw [(a5 x).mpr q] at e; cases e
    rw [← T_some e, (a7 x).last, a2]
    exact h x _ (talk_T hx)
  · unfold Wd.empty
    rw [a1]
    exact he
  · have key : ∀ (v : Wd) (x : Bool), WInv v → ∀ t, ((v.read x 200).T x).t = some t → v.talk x ≠ none → t.unread = [] := fun v x I t h hx => by
      rw [read_T, if_pos ⟨rfl, hx⟩] at h
      unfold Tl.read at h
      obtain ⟨u, h1, h2⟩ := Option.map_eq_some_iff.mp h
      have := (I.pair.t x h1).room
      rw [← h2]
      show u.unread.drop 200 = []
      rw [List.drop_eq_nil_iff]
      omega
    have e : (((w.read false 200).read true 200).T x).t = some t := e
    cases x with
    | false =>
      rw [read_T, if_neg (fun q => nomatch q.1)] at e
      exact key w false I t e I.t0
    | true =>
      by_cases hx : w.talk true = none
      · have hx' : (w.read false 200).talk true = none := ((read_rest w false 200).2.2.2.2.1 true).mpr hx
        rw [read_T, if_neg (fun q => q.2 hx'), read_T, if_neg (fun q => nomatch q.1)] at e
        have hph : w.T true = w.ph := by unfold Wd.T; rw [hx]
        rw [hph] at e
        cases e
        rfl
      · exact key (w.read false 200) true (I.read false 200) t e (fun q => hx (((read_rest w false 200).2.2.2.2.1 true).mp q))
theorem run_plain (w : Wd) (k : Nat) : (w.run k).now = w.now ∧ (w.run k).first = w.first ∧ (w.run k).wrote = w.wrote := by
  induction k with
  | zero => exact ⟨rfl, rfl, rfl⟩
  | succ k ih =>
    show (w.run k).step.now = _ ∧ (w.run k).step.first = _ ∧ (w.run k).step.wrote = _
    have e : (w.run k).step.now = (w.run k).now ∧ (w.run k).step.first = (w.run k).first ∧ (w.run k).step.wrote = (w.run k).wrote := by
      unfold Wd.step
      split
      · obtain ⟨c1, c2, c3, _⟩ := come_now ({ w.run k with road := put (w.run k).road false ‹List Sg› } : Wd) false ‹Sg›
        exact ⟨c1, c2, c3⟩
      · split
        · obtain ⟨c1, c2, c3, _⟩ := come_now ({ w.run k with road := put (w.run k).road true ‹List Sg› } : Wd) true ‹Sg›
          exact ⟨c1, c2, c3⟩
        · exact ⟨rfl, rfl, rfl⟩
    exact ⟨e.1.trans ih.1, e.2.1.trans ih.2.1, e.2.2.trans ih.2.2⟩
/-- one that is closed: both have read all -/
theorem closed_has (Hd : Head w) {x : Bool} {tl : Tl} (h : w.talk x = some tl) (hc : tl.stand = .closed) : ∀ y, w.has y = w.wrote !y := by
  have hT := T_some h
  have hr : ∃ s, (w.T x).rested = some s := by
    rw [hT]
    cases e : tl.rested with
    | some s => exact ⟨s, rfl⟩
    | none =>
      exfalso
      unfold Tl.stand at hc
      rw [e] at hc
      cases q : tl.ending <;> rw [q] at hc
      · simp only at hc
        split at hc
        · split at hc
          · cases hc
          · split at hc <;> cases hc
        · split at hc <;> cases hc
      · cases hc
      · cases hc
  obtain ⟨s, hs⟩ := hr
  obtain ⟨h1, h2, h3, h4⟩ := rested_answered Hd.inv x hs
  have full : ∀ y, len w (!y) ≤ wof (w.first !y) (w.T y).t → w.has y = w.wrote !y := fun y hw => by
    cases e : (w.T y).t with
    | none =>
      rw [e] at hw
      have hw : len w (!y) ≤ 0 := hw
      unfold len at hw
      omega
    | some t =>
      rw [e] at hw
      have hw : len w (!y) ≤ far (w.first !y) t.wanted := hw
      have hg := (Hd.inv.pair.t y e).got
      rw [Hd.unread y t e, List.append_nil] at hg
      rw [hg, List.take_of_length_le]
      unfold len at hw
      omega
  intro y
  rcases eq_or_not x y with rfl | rfl
  · exact full y (by rw [h3]; exact Nat.le_refl _)
  · refine full (!x) ?_
    rw [nn]
    have := Hd.inv.pair.core.ans x
    have this : (w.T x).g.passed ≤ wof (w.first x) (w.T !x).t := this
    omega
/-! ### the drawn world's ending -/
structure LG (T0 : Nat) (wr : Bool → List Nat) (w : Wd) : Prop where
  hd : Head w
  t0 : T0 ≤ w.now
  wrote : w.wrote = wr
  ph : ¬ Ended w → Phase T0 w
theorem LG.start (I : WInv w) (h : Timed w) (k : Nat) (he : (w.run k).empty) : LG w.now w.wrote (w.run k).reads := by
  obtain ⟨h1, h2⟩ := run_inv I h k
  obtain ⟨a1, a2, a3⟩ := run_plain w k
  obtain ⟨b1, b2, b3, b4, _⟩ := reads_facts (w.run k)
  have Hd := head_of h1 h2 he
  refine ⟨Hd, by rw [b2, a1]; exact Nat.le_refl _, b4.trans a3, fun hE => ?_⟩
  have P := phase_start Hd hE
  rw [b2, a1] at P
  exact P
theorem LG.next {T0 : Nat} {wr : Bool → List Nat} (L : LG T0 wr w) (hE : ¬ Ended w) (k : Nat) (he : (w.tick.run k).empty) : LG T0 wr (w.tick.run k).reads := by
  obtain ⟨a1, a2, a3, _⟩ := tick_facts w
  obtain ⟨r1, r2, r3⟩ := run_plain w.tick k
  obtain ⟨b1, b2, b3, b4, _⟩ := reads_facts (w.tick.run k)
  have R := L.hd.run
  obtain ⟨h1, h2⟩ := run_inv R.inv R.timed k
  have := L.t0
  exact ⟨head_of h1 h2 he, by rw [b2, r1, a1]; omega, by rw [b4, r3, a3]; exact L.wrote, fun hE' => phase_next L.hd hE (L.ph hE) L.t0 k he hE'⟩
theorem LG.bound {T0 : Nat} {wr : Bool → List Nat} (L : LG T0 wr w) (hE : ¬ Ended w) : w.now ≤ T0 + ((wr false).length + (wr true).length + 12) * 100 := by
  have := phase_bound L.hd (L.ph hE)
  rw [L.wrote] at this
  exact this
/-! ### the clean world -/
structure CInv (w : Wd) : Prop where
  hb : w.talk true ≠ none
  ht : ∀ x, (w.T x).t ≠ none
  no : ∀ x, (w.T x).ending = .no
  tr : ∀ x, (w.T x).g.passed < len w x → (w.T x).g.tried = 0
theorem due_tried_nil {f : Nat} {wr : List Nat} {n : Nat} {g : Gv} (I : GInv f wr n g) (hk : g.kept = []) : (g.due n).tried = g.tried := by
  obtain ⟨c1, c2, c3, c4, c5, c6, c7, c8, c9, c10⟩ := ({ g with now := n } : Gv).count_fields n
  have hs : g.sent = 0 := by have := I.sent; rw [hk] at this; simpa using this
  have hc : ¬ ({ g with now := n } : Gv).counted = true := by
    unfold Gv.counted
    simp only [Bool.or_eq_true, Bool.and_eq_true, decide_eq_true_eq]
    rintro (q | ⟨q, _⟩)
    · have q : 0 < g.sent := q; omega
    · have q : 0 < g.kept.length := q; rw [hk] at q; exact absurd q (Nat.lt_irrefl 0)
  have hA : ¬ (({ g with now := n } : Gv).count n).isAgain n = true := by
    intro h
    obtain ⟨s, e, _⟩ := Gv.isAgain_true h
    rw [Gv.count_since, if_neg hc] at e
    cases e
  rw [Gv.due_tried]
  unfold Gv.due1 Gv.again
  rw [if_neg hA, c7]
/-- no tick makes it gone where tries are few -/
theorem tick_no (Hd : Head w) (x : Bool) (hx : w.talk x ≠ none) (hno : (w.T x).ending = .no) (ht : (w.T x).g.passed < len w x → (w.T x).g.tried = 0) : (w.tick.T x).ending = .no := by
  obtain ⟨_, _, _, _, _, _, _, a8, _⟩ := tick_facts w
  have hlast : (w.T x).last ≤ w.now + 1 := Nat.le_succ_of_le (Hd.inv.pair.ok x).last
  have hfe : (w.T x).finish.ending = .no := by
    unfold Tl.finish
    split <;> exact hno
  rw [a8, if_pos hx]
  unfold Tl.due
  split
  · exact hfe
  · rename_i ho
    have ho : ((w.T x).finish.at_ (w.now + 1)).isOver = false := by simpa using ho
    have hf := finish_g (over_at_finish hlast ho)
    have hg : GInv (w.first x) (w.wrote x) (w.now + 1) (w.T x).g.finish := ((Hd.inv.pair.g x).later (Nat.le_succ _)).finish
    have few : ((w.T x).finish.dueG (w.now + 1)).g.tried < 16 := by
      rw [hf]
      show ((w.T x).g.finish.due (w.now + 1)).tried < 16
      by_cases c : (w.T x).g.passed < len w x
      · have h0 := ht c
        rw [Gv.due_tried]
        obtain ⟨_, _, _, _, _, _, c7, _⟩ := ({ (w.T x).g.finish with now := w.now + 1 } : Gv).count_fields (w.now + 1)
        have := Gv.again_tried (({ (w.T x).g.finish with now := w.now + 1 } : Gv).count (w.now + 1)) (w.now + 1)
        rw [c7] at this
        have this : ((w.T x).g.finish.due1 (w.now + 1)).tried ≤ (w.T x).g.tried + 1 := this
        omega
      · have hp : (w.T x).g.passed = len w x := by have := passed_le_len Hd.inv x; omega
        have hk : (w.T x).g.finish.kept = [] := by
          refine List.eq_nil_of_length_eq_zero ?_
          rw [hg.klen]
          show slen (w.wrote x) true - (w.T x).g.passed = 0
          unfold slen
          unfold len at hp
          simp
          omega
        rw [due_tried_nil hg hk]
        exact (Hd.inv.pair.ok x).tried (by rw [hno]; exact fun q => nomatch q)
    rw [if_neg (by omega)]
    exact hfe
theorem heard_no_end (tl : Tl) (s : Sg) (n : Nat) (hc : s.c = false) : (tl.heard s n).ending = tl.ending := by
  unfold Tl.heard
  split
  · rename_i h
    have := (way_cuts h).2
    rw [hc] at this
    cases this
  · unfold Tl.counted Tl.rest Tl.hearA Tl.heard1
    split <;> split <;> rfl
  · rfl
theorem run_no (R : Run w) (hb : w.talk true ≠ none) (k : Nat) (x : Bool) (h : (w.T x).ending = .no) : ((w.run k).T x).ending = .no := by
  have P := (run_ind (P := fun v => v.talk true ≠ none ∧ (v.T x).ending = .no) (fun v z s r Rv hr hz hv => by
    obtain ⟨c1, c2, c3, _⟩ := come_both Rv hv.1 hr
    refine ⟨c3, ?_⟩
    rw [c1]
    have hc := Rv.noc z s (by rw [hr]; exact List.mem_cons_self ..)
    rcases eq_or_not x z with rfl | rfl
    · rw [put_same, heard_no_end _ _ _ hc]; exact hv.2
    · rw [put_not']; exact hv.2) k R ⟨hb, h⟩).2
  exact P.2
theorem run_tried (R : Run w) (hb : w.talk true ≠ none) (k : Nat) (x : Bool) (h : (w.T x).g.tried = 0) : ((w.run k).T x).g.tried = 0 := by
  have P := (run_ind (P := fun v => v.talk true ≠ none ∧ (v.T x).g.tried = 0) (fun v z s r Rv hr hz hv => by
    obtain ⟨c1, c2, c3, _⟩ := come_both Rv hv.1 hr
    refine ⟨c3, ?_⟩
    rw [c1]
    rcases eq_or_not x z with rfl | rfl
    · rw [put_same]
      rcases heard_g (v.T z) s v.now with e | ⟨e, _⟩
      · rw [e]; exact hv.2
      · rw [e]
        have := Gv.heard_tried (v.T z).g s.answer s.room v.now
        have := hv.2
        omega
    · rw [put_not']; exact hv.2) k R ⟨hb, h⟩).2
  exact P.2
theorem over_rested (I : WInv w) (x : Bool) (hno : (w.T x).ending = .no) (ho : (w.T x).isOver = true) : (w.T x).g.passed = len w x := by
  rcases (over_iff _).mp ho with q | ⟨_, s, q, _⟩
  · exact absurd hno q
  · exact (rested_answered I x q).1
theorem clean_next (Hd : Head w) (P : Phase 0 w) (C : CInv w) (k : Nat) (he : (w.tick.run k).empty) : CInv (w.tick.run k).reads := by
  have R := Hd.run
  obtain ⟨a1, a2, a3, a4, a5, a6, a7, a8, a9⟩ := tick_facts w
  obtain ⟨r1, r2, r3, r4⟩ := run_facts R k
  obtain ⟨b1, b2, b3, b4, b5, b6, b7⟩ := reads_facts (w.tick.run k)
  have Rv : Run (w.tick.run k) := (run_ind (P := fun _ => True) (fun _ _ _ _ _ _ _ _ => trivial) k R trivial).1
  have hb := C.hb
  have hbt : w.tick.talk true ≠ none := fun q => hb ((a5 true).mp q)
  have hx : ∀ y, w.talk y ≠ none := fun y => by cases y; exact Hd.inv.t0; exact hb
  have hbv : (w.tick.run k).talk true ≠ none := run_talk R k true hbt
  have hxv : ∀ y, (w.tick.run k).talk y ≠ none := fun y => by cases y; exact Rv.inv.t0; exact hbv
  have htt : ∀ x, (w.tick.T x).t ≠ none := fun x => by rw [(fins_rested w x).2.1]; exact C.ht x
  have hnov : ∀ x, ((w.tick.run k).T x).ending = .no := fun x => run_no R hbt k x (tick_no Hd x (hx x) (C.no x) (C.tr x))
  have hlen : ∀ x, len (w.tick.run k).reads x = len w x := fun x => (len_eq (b4.trans (r3.trans a3)) x).1
  have hlenv : ∀ x, len (w.tick.run k) x = len w x := fun x => (len_eq (r3.trans a3) x).1
  have hnowv : (w.tick.run k).now = w.now + 1 := r1.trans a1
  refine ⟨fun q => hbv ((b5 true).mp q), fun x q => run_t R hbt k x (htt x) ((b7 x).t.mp q), fun x => by rw [(b7 x).ending]; exact hnov x, fun x hp => ?_⟩
  rw [hlen, (b7 x).g] at hp
  rw [(b7 x).g]
  have hpw : (w.T x).g.passed < len w x := by
    have := run_passed R hbt k x
    rw [(fins_rested w x).2.2] at this
    omega
  have hox : ((w.tick.run k).T x).isOver ≠ true := fun q => by
    have := over_rested Rv.inv x (hnov x) q
    rw [hlenv] at this
    omega
  have hoy : ((w.tick.run k).T !x).isOver ≠ true := fun q => by
    rcases (over_iff _).mp q with q | ⟨_, s, q1, q2⟩
    · exact absurd (hnov !x) q
    · rw [Rv.timed (!x) _ (talk_T (hxv _)), hnowv] at q2
      have J0 : J6 (!x) (w.T !x).rested w.tick := ⟨talk_T (fun q => hx (!x) ((a5 _).mp q)), .inl (fins_rested w !x).1⟩
      have J := (run_ind (J6.step (!x) _) k R J0).2.j
      rw [hnowv] at J
      have hs : (w.T !x).rested = some s := by
        rcases J with J | ⟨_, J⟩
        · rw [← J]; exact q1
        · rw [q1] at J; cases J; omega
      cases P with
      | A h b => exact hb h
      | B hb ht b => exact C.ht false ht
      | C hb ht nc b rs rr =>
        have h1 := not_over_rested Hd (!x) (hx _) (nc _) hs
        have h2 := rr (!x) s hs (by rw [nn]; exact hpw)
        omega
      | D y hb hy hx h b t => exact absurd t (Nat.lt_irrefl 0)
      | E y s' hb hy hx' h b =>
        rcases eq_or_not x y with e | e
        · rw [e] at hy
          have := over_rested Hd.inv x (C.no x) hy
          omega
        · rw [e, nn] at h
          have := (rested_answered Hd.inv x h).1
          omega
  have hot : (w.tick.T x).isOver ≠ true := fun q => hox (run_dead R hbt k x q)
  have e0 : ∀ y, (w.tick.run k).road y = [] := fun y => by cases y; exact he.1; exact he.2
  rcases Hd.fin x (hx x) with q | F
  · exact absurd q hot
  have hsome : (w.T x).t.isSome = true := by
    cases e : (w.T x).t with
    | none => exact absurd e (C.ht x)
    | some t => rfl
  have J0 : J4 x w.tick := by
    refine ⟨hbt, htt x, htt !x, ?_⟩
    rcases F.goes Hd hpw with ⟨s, hs, s1, s2, s3⟩ | ⟨h2, h3, h4, s, hs, s1, s2⟩ | ⟨s0, h1, h2, h3, h4, h5⟩
    · exact .inr (.inr (.inr (.inr ⟨s, hs, s1.trans hsome, .inl s3⟩)))
    · exact .inr (.inr (.inr (.inr ⟨s, hs, s1.trans hsome, .inr s2⟩)))
    · exact .inr (.inr (.inl (h5.trans (C.tr x hpw))))
  have J := (run_ind (J4.step x) k R J0).2
  rcases J.j with j | j | j | ⟨s, hs, _⟩ | ⟨s, hs, _⟩
  · exact absurd j hox
  · exact absurd j hoy
  · exact j
  · rw [e0] at hs; cases hs
  · rw [e0] at hs; cases hs
/-- the clean world as its ending begins -/
structure CStart (w : Wd) : Prop where
  hb : w.talk true ≠ none
  now : w.now = 0
  ht : (w.T false).t = none
  no : ∀ x, (w.T x).ending = .no
  tr : ∀ x, (w.T x).g.tried = 0
  s0 : (w.T false).g.sent = 1 ∧ (w.T false).g.since = some 0 ∧ (w.T false).g.wait = 4
  s1 : (w.T true).g.sent = 0 ∧ (w.T true).g.reach = 1 ∧ (w.T true).g.passed = 0
theorem CStart.notEnded (C : CStart w) (I : WInv w) : ¬ Ended w := by
  have hx : ∀ y, w.talk y ≠ none := fun y => by cases y; exact I.t0; exact C.hb
  rintro (⟨x, tl, h, h2, _⟩ | ⟨x, tl, h, h2, _⟩ | ⟨a, b, h, _, h2, _⟩)
  · have := C.no x
    rw [T_some h] at this
    unfold Tl.stand at h2
    rw [this] at h2
    simp only at h2
    split at h2
    · split at h2
      · split at h2 <;> cases h2
      · split at h2
        · cases h2
        · split at h2 <;> cases h2
    · split at h2 <;> cases h2
  · have := C.no x
    rw [T_some h] at this
    unfold Tl.stand at h2
    rw [this] at h2
    simp only at h2
    split at h2
    · split at h2
      · split at h2 <;> cases h2
      · split at h2
        · cases h2
        · split at h2 <;> cases h2
    · split at h2 <;> cases h2
  · have hz := (I.pair.core.nt false C.ht).2
    have hz : (w.T false).g.passed = 0 := hz
    rw [T_some h] at hz
    unfold Tl.stand Tl.isOpen at h2
    rw [hz] at h2
    have := C.no false
    rw [T_some h] at this
    rw [this] at h2
    simp only [Nat.lt_irrefl, decide_false, Bool.false_eq_true, if_false] at h2
    split at h2 <;> cases h2
theorem CStart.next (C : CStart w) (Hd : Head w) (k : Nat) (he : (w.tick.run k).empty) : CInv (w.tick.run k).reads := by
  have R := Hd.run
  obtain ⟨a1, a2, a3, a4, a5, a6, a7, a8, a9⟩ := tick_facts w
  obtain ⟨b1, b2, b3, b4, b5, b6, b7⟩ := reads_facts (w.tick.run k)
  obtain ⟨r1, r2, r3, r4⟩ := run_facts R k
  have Rv : Run (w.tick.run k) := (run_ind (P := fun _ => True) (fun _ _ _ _ _ _ _ _ => trivial) k R trivial).1
  have hbt : w.tick.talk true ≠ none := fun q => C.hb ((a5 true).mp q)
  have hx : ∀ y, w.talk y ≠ none := fun y => by cases y; exact Hd.inv.t0; exact C.hb
  have hbv : (w.tick.run k).talk true ≠ none := run_talk R k true hbt
  have hxv : ∀ y, (w.tick.run k).talk y ≠ none := fun y => by cases y; exact Rv.inv.t0; exact hbv
  have hnov : ∀ x, ((w.tick.run k).T x).ending = .no := fun x => run_no R hbt k x (tick_no Hd x (hx x) (C.no x) (fun _ => C.tr x))
  have hnowv : (w.tick.run k).now = 1 := by rw [r1, a1, C.now]
  have hot : ∀ x, ((w.tick.run k).T x).isOver ≠ true := fun x q => by
    rcases (over_iff _).mp q with q | ⟨_, s, _, q⟩
    · exact absurd (hnov x) q
    · rw [Rv.timed x _ (talk_T (hxv x)), hnowv] at q
      omega
  have noagain : ∀ x, (w.tick.T x).g.tried = 0 := fun x => by
    rcases Hd.fin x (hx x) with q | F
    · exact absurd (run_dead R hbt k x q) (hot x)
    rw [F.facts.1, Gv.due_tried]
    obtain ⟨c1, c2, c3, c4, c5, c6, c7, c8, c9, c10⟩ := ({ (w.T x).g.finish with now := w.now + 1 } : Gv).count_fields (w.now + 1)
    have hA : ¬ (({ (w.T x).g.finish with now := w.now + 1 } : Gv).count (w.now + 1)).isAgain (w.now + 1) = true := fun h => by
      obtain ⟨s, e, h2⟩ := Gv.isAgain_true h
      rw [Gv.count_since] at e
      rw [c2] at h2
      cases x with
      | false =>
        obtain ⟨s1, s2, s3⟩ := C.s0
        have h2 : s + (w.T false).g.wait ≤ w.now + 1 := h2
        rw [s3, C.now] at h2
        omega
      | true =>
        obtain ⟨s1, s2, s3⟩ := C.s1
        have hc : ¬ ({ (w.T true).g.finish with now := w.now + 1 } : Gv).counted = true := by
          unfold Gv.counted
          simp only [Bool.or_eq_true, Bool.and_eq_true, decide_eq_true_eq]
          rintro (q | ⟨_, q⟩)
          · have q : 0 < (w.T true).g.sent := q; omega
          · have q : (w.T true).g.reach = 0 := q; omega
        rw [if_neg hc] at e
        cases e
    unfold Gv.due1 Gv.again
    rw [if_neg hA, c7]
    exact C.tr x
  refine ⟨fun q => hbv ((b5 true).mp q), fun x q => ?_, fun x => by rw [(b7 x).ending]; exact hnov x, fun x _ => by rw [(b7 x).g]; exact run_tried R hbt k x (noagain x)⟩
  have q := (b7 x).t.mp q
  cases x with
  | true => exact Rv.inv.pair.core.k1 q
  | false =>
    obtain ⟨s1, s2, s3⟩ := C.s1
    rcases progress Hd true C.hb Hd.inv.pair.core.k1 (by rw [s3]; omega) k he with h | h | h | h
    · exact hot _ h
    · exact hot _ h
    · exact Rv.inv.pair.open_of true (by omega) q
    · have e : (w.T true).g.q w.now = 0 := by unfold Gv.q; rw [if_pos ⟨s1, by omega⟩]
      omega
structure LC (wr : Bool → List Nat) (w : Wd) : Prop where
  lg : LG 0 wr w
  c : CStart w ∨ CInv w
theorem LC.next {wr : Bool → List Nat} (L : LC wr w) (hE : ¬ Ended w) (k : Nat) (he : (w.tick.run k).empty) : LC wr (w.tick.run k).reads := by
  refine ⟨L.lg.next hE k he, .inr ?_⟩
  rcases L.c with c | c
  · exact c.next L.lg.hd k he
  · exact clean_next L.lg.hd (L.lg.ph hE) c k he
theorem LC.closed {wr : Bool → List Nat} (L : LC wr w) (hE : Ended w) : ∃ a b, w.talk false = some a ∧ w.talk true = some b ∧ a.stand = .closed ∧ b.stand = .closed := by
  have I := L.lg.hd.inv
  rcases L.c with c | c
  · exact absurd hE (c.notEnded I)
  · have no : ∀ x tl, w.talk x = some tl → tl.stand ≠ .gone ∧ tl.stand ≠ .cut := fun x tl h => by
      have := c.no x
      rw [T_some h] at this
      unfold Tl.stand
      rw [this]
      simp only
      constructor <;> (split <;> (try split) <;> (try split) <;> (try split) <;> simp)
    rcases hE with ⟨x, tl, h, h2, _⟩ | ⟨x, tl, h, h2, _⟩ | h
    · exact absurd h2 (no x tl h).1
    · exact absurd h2 (no x tl h).2
    · exact h
end
end SW
end
section
set_option maxRecDepth 100000
set_option maxHeartbeats 0
namespace SW
open PySem PySem.Spec PyProof.Rows L2
def top (i : Nat) : Stmt := PySem.Challenge.pw_surewire_k81_whole_two_talks.main.body.getD i (.Pass ⟨0, 0, 0, 0⟩)
abbrev s_is_whole : Stmt := top 11
abbrev s_is_data : Stmt := top 12
abbrev s_need_size : Stmt := top 16
abbrev s_need_number : Stmt := top 17
abbrev s_moved : Stmt := top 18
abbrev s_far : Stmt := top 19
abbrev s_is_number_givers : Stmt := top 25
abbrev s_Giver_init : Stmt := inClass (top 27) 0
abbrev s_Giver_need_tick : Stmt := inClass (top 27) 1
abbrev s_Giver_is_counted : Stmt := inClass (top 27) 2
abbrev s_Giver_count : Stmt := inClass (top 27) 3
abbrev s_Giver_write : Stmt := inClass (top 27) 4
abbrev s_Giver_finish : Stmt := inClass (top 27) 5
abbrev s_Giver_heard : Stmt := inClass (top 27) 6
abbrev s_Giver_again : Stmt := inClass (top 27) 7
abbrev s_Giver_due : Stmt := inClass (top 27) 8
abbrev s_Giver_tries : Stmt := inClass (top 27) 9
abbrev s_Giver_left : Stmt := inClass (top 27) 10
abbrev s_Giver_answered : Stmt := inClass (top 27) 11
abbrev s_Giver_next_number : Stmt := inClass (top 27) 12
abbrev s_is_from_nought : Stmt := top 33
abbrev s_are_marks : Stmt := top 34
abbrev s_Segment_init : Stmt := inClass (top 35) 0
abbrev s_Segment_told : Stmt := inClass (top 35) 1
abbrev s_Segment_numbered : Stmt := inClass (top 35) 2
abbrev s_is_within : Stmt := top 39
abbrev s_Taker_init : Stmt := inClass (top 40) 0
abbrev s_Taker_free : Stmt := inClass (top 40) 1
abbrev s_Taker_take : Stmt := inClass (top 40) 2
abbrev s_Taker_come_ready : Stmt := inClass (top 40) 3
abbrev s_Taker_wants : Stmt := inClass (top 40) 4
abbrev s_Taker_read : Stmt := inClass (top 40) 5
abbrev s_Taker_ready : Stmt := inClass (top 40) 6
abbrev s_Taker_ended : Stmt := inClass (top 40) 7
abbrev s_is_number_talks : Stmt := top 48
abbrev s_need_tick : Stmt := top 50
abbrev s_Talk_init : Stmt := inClass (top 51) 0
abbrev s_Talk_begin_taker : Stmt := inClass (top 51) 1
abbrev s_Talk_is_open : Stmt := inClass (top 51) 2
abbrev s_Talk_is_over : Stmt := inClass (top 51) 3
abbrev s_Talk_pass_to : Stmt := inClass (top 51) 4
abbrev s_Talk_is_answer : Stmt := inClass (top 51) 5
abbrev s_Talk_is_cut_by : Stmt := inClass (top 51) 6
abbrev s_Talk_made : Stmt := inClass (top 51) 7
abbrev s_Talk_segment_of : Stmt := inClass (top 51) 8
abbrev s_Talk_heard : Stmt := inClass (top 51) 9
abbrev s_Talk_take : Stmt := inClass (top 51) 10
abbrev s_Talk_counted : Stmt := inClass (top 51) 11
abbrev s_Talk_due : Stmt := inClass (top 51) 12
abbrev s_Talk_cut : Stmt := inClass (top 51) 13
abbrev s_Talk_stand : Stmt := inClass (top 51) 14
abbrev s_Talk_write : Stmt := inClass (top 51) 15
abbrev s_Talk_finish : Stmt := inClass (top 51) 16
abbrev s_Talk_read : Stmt := inClass (top 51) 17
abbrev s_Talk_ready : Stmt := inClass (top 51) 18
abbrev s_Talk_firsts : Stmt := inClass (top 51) 19
abbrev s_Talk_next_number : Stmt := inClass (top 51) 20
abbrev s_L_mixed : Stmt := top 53
abbrev s_L_draw : Stmt := top 54
abbrev s_L_next : Stmt := top 55
abbrev s_L_first : Stmt := top 56
abbrev s_L_bytes : Stmt := top 57
abbrev s_L_begun : Stmt := top 58
abbrev s_L_sent : Stmt := top 59
abbrev s_L_come : Stmt := top 60
abbrev s_L_ticked : Stmt := top 61
abbrev s_L_road : Stmt := top 62
abbrev s_L_wrote : Stmt := top 63
abbrev s_L_own : Stmt := top 64
abbrev s_L_right : Stmt := top 65
abbrev s_L_all_come : Stmt := top 66
abbrev s_L_ended : Stmt := top 67
abbrev s_L_ends_right : Stmt := top 68
abbrev s_L_clean : Stmt := top 69
abbrev s_law : Stmt := top 70
def d_is_whole : He.DefD := ⟨("is_whole", none), "is_whole", "is_whole", defArgs s_is_whole, defBody s_is_whole, defScope s_is_whole, [], []⟩
def d_is_data : He.DefD := ⟨("is_data", none), "is_data", "is_data", defArgs s_is_data, defBody s_is_data, defScope s_is_data, [], []⟩
def d_need_size : He.DefD := ⟨("need_size", none), "need_size", "need_size", defArgs s_need_size, defBody s_need_size, defScope s_need_size, [], []⟩
def d_need_number : He.DefD := ⟨("need_number", none), "need_number", "need_number", defArgs s_need_number, defBody s_need_number, defScope s_need_number, [], []⟩
def d_moved : He.DefD := ⟨("moved", none), "moved", "moved", defArgs s_moved, defBody s_moved, defScope s_moved, [], []⟩
def d_far : He.DefD := ⟨("far", none), "far", "far", defArgs s_far, defBody s_far, defScope s_far, [], []⟩
def d_is_number_givers : He.DefD := ⟨("is_number_givers", none), "is_number", "is_number", defArgs s_is_number_givers, defBody s_is_number_givers, defScope s_is_number_givers, [], []⟩
def d_Giver_init : He.DefD := ⟨("Giver", some "__init__"), "__init__", "Giver.__init__", defArgs s_Giver_init, defBody s_Giver_init, defScope s_Giver_init, [], []⟩
def d_Giver_need_tick : He.DefD := ⟨("Giver", some "need_tick"), "need_tick", "Giver.need_tick", defArgs s_Giver_need_tick, defBody s_Giver_need_tick, defScope s_Giver_need_tick, [], []⟩
def d_Giver_is_counted : He.DefD := ⟨("Giver", some "is_counted"), "is_counted", "Giver.is_counted", defArgs s_Giver_is_counted, defBody s_Giver_is_counted, defScope s_Giver_is_counted, [], []⟩
def d_Giver_count : He.DefD := ⟨("Giver", some "count"), "count", "Giver.count", defArgs s_Giver_count, defBody s_Giver_count, defScope s_Giver_count, [], []⟩
def d_Giver_write : He.DefD := ⟨("Giver", some "write"), "write", "Giver.write", defArgs s_Giver_write, defBody s_Giver_write, defScope s_Giver_write, [], []⟩
def d_Giver_finish : He.DefD := ⟨("Giver", some "finish"), "finish", "Giver.finish", defArgs s_Giver_finish, defBody s_Giver_finish, defScope s_Giver_finish, [], []⟩
def d_Giver_heard : He.DefD := ⟨("Giver", some "heard"), "heard", "Giver.heard", defArgs s_Giver_heard, defBody s_Giver_heard, defScope s_Giver_heard, [], []⟩
def d_Giver_again : He.DefD := ⟨("Giver", some "again"), "again", "Giver.again", defArgs s_Giver_again, defBody s_Giver_again, defScope s_Giver_again, [], []⟩
def d_Giver_due : He.DefD := ⟨("Giver", some "due"), "due", "Giver.due", defArgs s_Giver_due, defBody s_Giver_due, defScope s_Giver_due, [], []⟩
def d_Giver_tries : He.DefD := ⟨("Giver", some "tries"), "tries", "Giver.tries", defArgs s_Giver_tries, defBody s_Giver_tries, defScope s_Giver_tries, [], []⟩
def d_Giver_left : He.DefD := ⟨("Giver", some "left"), "left", "Giver.left", defArgs s_Giver_left, defBody s_Giver_left, defScope s_Giver_left, [], []⟩
def d_Giver_answered : He.DefD := ⟨("Giver", some "answered"), "answered", "Giver.answered", defArgs s_Giver_answered, defBody s_Giver_answered, defScope s_Giver_answered, [], []⟩
def d_Giver_next_number : He.DefD := ⟨("Giver", some "next_number"), "next_number", "Giver.next_number", defArgs s_Giver_next_number, defBody s_Giver_next_number, defScope s_Giver_next_number, [], []⟩
def d_is_from_nought : He.DefD := ⟨("is_from_nought", none), "is_from_nought", "is_from_nought", defArgs s_is_from_nought, defBody s_is_from_nought, defScope s_is_from_nought, [], []⟩
def d_are_marks : He.DefD := ⟨("are_marks", none), "are_marks", "are_marks", defArgs s_are_marks, defBody s_are_marks, defScope s_are_marks, [], []⟩
def d_Segment_init : He.DefD := ⟨("Segment", some "__init__"), "__init__", "Segment.__init__", defArgs s_Segment_init, defBody s_Segment_init, defScope s_Segment_init, [], []⟩
def d_Segment_told : He.DefD := ⟨("Segment", some "told"), "told", "Segment.told", defArgs s_Segment_told, defBody s_Segment_told, defScope s_Segment_told, [], []⟩
def d_Segment_numbered : He.DefD := ⟨("Segment", some "numbered"), "numbered", "Segment.numbered", defArgs s_Segment_numbered, defBody s_Segment_numbered, defScope s_Segment_numbered, [], []⟩
def d_is_within : He.DefD := ⟨("is_within", none), "is_within", "is_within", defArgs s_is_within, defBody s_is_within, defScope s_is_within, [], []⟩
def d_Taker_init : He.DefD := ⟨("Taker", some "__init__"), "__init__", "Taker.__init__", defArgs s_Taker_init, defBody s_Taker_init, defScope s_Taker_init, [], []⟩
def d_Taker_free : He.DefD := ⟨("Taker", some "free"), "free", "Taker.free", defArgs s_Taker_free, defBody s_Taker_free, defScope s_Taker_free, [], []⟩
def d_Taker_take : He.DefD := ⟨("Taker", some "take"), "take", "Taker.take", defArgs s_Taker_take, defBody s_Taker_take, defScope s_Taker_take, [], []⟩
def d_Taker_come_ready : He.DefD := ⟨("Taker", some "come_ready"), "come_ready", "Taker.come_ready", defArgs s_Taker_come_ready, defBody s_Taker_come_ready, defScope s_Taker_come_ready, [], []⟩
def d_Taker_wants : He.DefD := ⟨("Taker", some "wants"), "wants", "Taker.wants", defArgs s_Taker_wants, defBody s_Taker_wants, defScope s_Taker_wants, [], []⟩
def d_Taker_read : He.DefD := ⟨("Taker", some "read"), "read", "Taker.read", defArgs s_Taker_read, defBody s_Taker_read, defScope s_Taker_read, [], []⟩
def d_Taker_ready : He.DefD := ⟨("Taker", some "ready"), "ready", "Taker.ready", defArgs s_Taker_ready, defBody s_Taker_ready, defScope s_Taker_ready, [], []⟩
def d_Taker_ended : He.DefD := ⟨("Taker", some "ended"), "ended", "Taker.ended", defArgs s_Taker_ended, defBody s_Taker_ended, defScope s_Taker_ended, [], []⟩
def d_is_number_talks : He.DefD := ⟨("is_number_talks", none), "is_number", "is_number", defArgs s_is_number_talks, defBody s_is_number_talks, defScope s_is_number_talks, [], []⟩
def d_need_tick : He.DefD := ⟨("need_tick", none), "need_tick", "need_tick", defArgs s_need_tick, defBody s_need_tick, defScope s_need_tick, [], []⟩
def d_Talk_init : He.DefD := ⟨("Talk", some "__init__"), "__init__", "Talk.__init__", defArgs s_Talk_init, defBody s_Talk_init, defScope s_Talk_init, [.non], []⟩
def d_Talk_begin_taker : He.DefD := ⟨("Talk", some "begin_taker"), "begin_taker", "Talk.begin_taker", defArgs s_Talk_begin_taker, defBody s_Talk_begin_taker, defScope s_Talk_begin_taker, [], []⟩
def d_Talk_is_open : He.DefD := ⟨("Talk", some "is_open"), "is_open", "Talk.is_open", defArgs s_Talk_is_open, defBody s_Talk_is_open, defScope s_Talk_is_open, [], []⟩
def d_Talk_is_over : He.DefD := ⟨("Talk", some "is_over"), "is_over", "Talk.is_over", defArgs s_Talk_is_over, defBody s_Talk_is_over, defScope s_Talk_is_over, [], []⟩
def d_Talk_pass_to : He.DefD := ⟨("Talk", some "pass_to"), "pass_to", "Talk.pass_to", defArgs s_Talk_pass_to, defBody s_Talk_pass_to, defScope s_Talk_pass_to, [], []⟩
def d_Talk_is_answer : He.DefD := ⟨("Talk", some "is_answer"), "is_answer", "Talk.is_answer", defArgs s_Talk_is_answer, defBody s_Talk_is_answer, defScope s_Talk_is_answer, [], []⟩
def d_Talk_is_cut_by : He.DefD := ⟨("Talk", some "is_cut_by"), "is_cut_by", "Talk.is_cut_by", defArgs s_Talk_is_cut_by, defBody s_Talk_is_cut_by, defScope s_Talk_is_cut_by, [], []⟩
def d_Talk_made : He.DefD := ⟨("Talk", some "made"), "made", "Talk.made", defArgs s_Talk_made, defBody s_Talk_made, defScope s_Talk_made, [], []⟩
def d_Talk_segment_of : He.DefD := ⟨("Talk", some "segment_of"), "segment_of", "Talk.segment_of", defArgs s_Talk_segment_of, defBody s_Talk_segment_of, defScope s_Talk_segment_of, [], []⟩
def d_Talk_heard : He.DefD := ⟨("Talk", some "heard"), "heard", "Talk.heard", defArgs s_Talk_heard, defBody s_Talk_heard, defScope s_Talk_heard, [], []⟩
def d_Talk_take : He.DefD := ⟨("Talk", some "take"), "take", "Talk.take", defArgs s_Talk_take, defBody s_Talk_take, defScope s_Talk_take, [], []⟩
def d_Talk_counted : He.DefD := ⟨("Talk", some "counted"), "counted", "Talk.counted", defArgs s_Talk_counted, defBody s_Talk_counted, defScope s_Talk_counted, [], []⟩
def d_Talk_due : He.DefD := ⟨("Talk", some "due"), "due", "Talk.due", defArgs s_Talk_due, defBody s_Talk_due, defScope s_Talk_due, [], []⟩
def d_Talk_cut : He.DefD := ⟨("Talk", some "cut"), "cut", "Talk.cut", defArgs s_Talk_cut, defBody s_Talk_cut, defScope s_Talk_cut, [], []⟩
def d_Talk_stand : He.DefD := ⟨("Talk", some "stand"), "stand", "Talk.stand", defArgs s_Talk_stand, defBody s_Talk_stand, defScope s_Talk_stand, [], []⟩
def d_Talk_write : He.DefD := ⟨("Talk", some "write"), "write", "Talk.write", defArgs s_Talk_write, defBody s_Talk_write, defScope s_Talk_write, [], []⟩
def d_Talk_finish : He.DefD := ⟨("Talk", some "finish"), "finish", "Talk.finish", defArgs s_Talk_finish, defBody s_Talk_finish, defScope s_Talk_finish, [], []⟩
def d_Talk_read : He.DefD := ⟨("Talk", some "read"), "read", "Talk.read", defArgs s_Talk_read, defBody s_Talk_read, defScope s_Talk_read, [], []⟩
def d_Talk_ready : He.DefD := ⟨("Talk", some "ready"), "ready", "Talk.ready", defArgs s_Talk_ready, defBody s_Talk_ready, defScope s_Talk_ready, [], []⟩
def d_Talk_firsts : He.DefD := ⟨("Talk", some "firsts"), "firsts", "Talk.firsts", defArgs s_Talk_firsts, defBody s_Talk_firsts, defScope s_Talk_firsts, [], []⟩
def d_Talk_next_number : He.DefD := ⟨("Talk", some "next_number"), "next_number", "Talk.next_number", defArgs s_Talk_next_number, defBody s_Talk_next_number, defScope s_Talk_next_number, [], []⟩
def d_L_mixed : He.DefD := ⟨("_law_mixed", none), "_law_mixed", "_law_mixed", defArgs s_L_mixed, defBody s_L_mixed, defScope s_L_mixed, [], []⟩
def d_L_draw : He.DefD := ⟨("_law_draw", none), "_law_draw", "_law_draw", defArgs s_L_draw, defBody s_L_draw, defScope s_L_draw, [], []⟩
def d_L_next : He.DefD := ⟨("_law_next", none), "_law_next", "_law_next", defArgs s_L_next, defBody s_L_next, defScope s_L_next, [], []⟩
def d_L_first : He.DefD := ⟨("_law_first", none), "_law_first", "_law_first", defArgs s_L_first, defBody s_L_first, defScope s_L_first, [], []⟩
def d_L_bytes : He.DefD := ⟨("_law_bytes", none), "_law_bytes", "_law_bytes", defArgs s_L_bytes, defBody s_L_bytes, defScope s_L_bytes, [], []⟩
def d_L_begun : He.DefD := ⟨("_law_begun", none), "_law_begun", "_law_begun", defArgs s_L_begun, defBody s_L_begun, defScope s_L_begun, [], []⟩
def d_L_sent : He.DefD := ⟨("_law_sent", none), "_law_sent", "_law_sent", defArgs s_L_sent, defBody s_L_sent, defScope s_L_sent, [], []⟩
def d_L_come : He.DefD := ⟨("_law_come", none), "_law_come", "_law_come", defArgs s_L_come, defBody s_L_come, defScope s_L_come, [], []⟩
def d_L_ticked : He.DefD := ⟨("_law_ticked", none), "_law_ticked", "_law_ticked", defArgs s_L_ticked, defBody s_L_ticked, defScope s_L_ticked, [], []⟩
def d_L_road : He.DefD := ⟨("_law_road", none), "_law_road", "_law_road", defArgs s_L_road, defBody s_L_road, defScope s_L_road, [], []⟩
def d_L_wrote : He.DefD := ⟨("_law_wrote", none), "_law_wrote", "_law_wrote", defArgs s_L_wrote, defBody s_L_wrote, defScope s_L_wrote, [], []⟩
def d_L_own : He.DefD := ⟨("_law_own", none), "_law_own", "_law_own", defArgs s_L_own, defBody s_L_own, defScope s_L_own, [], []⟩
def d_L_right : He.DefD := ⟨("_law_right", none), "_law_right", "_law_right", defArgs s_L_right, defBody s_L_right, defScope s_L_right, [], []⟩
def d_L_all_come : He.DefD := ⟨("_law_all_come", none), "_law_all_come", "_law_all_come", defArgs s_L_all_come, defBody s_L_all_come, defScope s_L_all_come, [], []⟩
def d_L_ended : He.DefD := ⟨("_law_ended", none), "_law_ended", "_law_ended", defArgs s_L_ended, defBody s_L_ended, defScope s_L_ended, [], []⟩
def d_L_ends_right : He.DefD := ⟨("_law_ends_right", none), "_law_ends_right", "_law_ends_right", defArgs s_L_ends_right, defBody s_L_ends_right, defScope s_L_ends_right, [], []⟩
def d_L_clean : He.DefD := ⟨("_law_clean", none), "_law_clean", "_law_clean", defArgs s_L_clean, defBody s_L_clean, defScope s_L_clean, [], []⟩
def d_law : He.DefD := ⟨("law", none), "law", "law", defArgs s_law, defBody s_law, defScope s_law, [], []⟩
def fn0 : List He.DefD := [d_is_whole, d_is_data, d_need_size, d_need_number, d_moved, d_far, d_is_number_givers, d_Giver_init, d_Giver_need_tick, d_Giver_is_counted, d_Giver_count, d_Giver_write, d_Giver_finish, d_Giver_heard, d_Giver_again, d_Giver_due, d_Giver_tries, d_Giver_left, d_Giver_answered, d_Giver_next_number]
def fn1 : List He.DefD := [d_is_from_nought, d_are_marks, d_Segment_init, d_Segment_told, d_Segment_numbered, d_is_within, d_Taker_init, d_Taker_free, d_Taker_take, d_Taker_come_ready, d_Taker_wants, d_Taker_read, d_Taker_ready, d_Taker_ended, d_is_number_talks, d_need_tick, d_Talk_init, d_Talk_begin_taker, d_Talk_is_open, d_Talk_is_over]
def fn2 : List He.DefD := [d_Talk_pass_to, d_Talk_is_answer, d_Talk_is_cut_by, d_Talk_made, d_Talk_segment_of, d_Talk_heard, d_Talk_take, d_Talk_counted, d_Talk_due, d_Talk_cut, d_Talk_stand, d_Talk_write, d_Talk_finish, d_Talk_read, d_Talk_ready, d_Talk_firsts, d_Talk_next_number, d_L_mixed, d_L_draw, d_L_next]
def fn3 : List He.DefD := [d_L_first, d_L_bytes, d_L_begun, d_L_sent, d_L_come, d_L_ticked, d_L_road, d_L_wrote, d_L_own, d_L_right, d_L_all_come, d_L_ended, d_L_ends_right, d_L_clean, d_law]
def fn : List He.DefD := fn0 ++ fn1 ++ fn2 ++ fn3
def fa0 : List He.Fa := [.glo "is_whole", .glo "is_data", .glo "need_size", .glo "need_number", .glo "moved", .glo "far", .glo "is_number_givers", .glo "is_from_nought", .glo "are_marks", .glo "is_within", .glo "is_number_talks", .glo "need_tick", .glo "_law_mixed", .glo "_law_draw", .glo "_law_next", .glo "_law_first", .glo "_law_bytes", .glo "_law_begun", .glo "_law_sent", .glo "_law_come"]
def fa1 : List He.Fa := [.glo "_law_ticked", .glo "_law_road", .glo "_law_wrote", .glo "_law_own", .glo "_law_right", .glo "_law_all_come", .glo "_law_ended", .glo "_law_ends_right", .glo "_law_clean", .glo "law", .glo "Giver", .cls "Giver", .mkr "Giver", .glo "Segment", .cls "Segment", .mkr "Segment", .glo "Taker", .cls "Taker", .mkr "Taker", .glo "Talk"]
def fa2 : List He.Fa := [.cls "Talk", .mkr "Talk", .noat "Giver" "base", .noat "Giver" "most", .noat "Giver" "first_wait", .noat "Giver" "wait", .noat "Giver" "kept", .noat "Giver" "sent", .noat "Giver" "reach", .noat "Giver" "pace", .noat "Giver" "since", .noat "Giver" "tried", .noat "Giver" "passed", .noat "Giver" "finished", .noat "Giver" "now", .meth "Giver" "need_tick", .meth "Giver" "is_counted", .meth "Giver" "count", .meth "Giver" "write", .meth "Giver" "finish"]
def fa3 : List He.Fa := [.meth "Giver" "heard", .meth "Giver" "again", .meth "Giver" "due", .meth "Giver" "tries", .meth "Giver" "left", .meth "Giver" "answered", .meth "Giver" "next_number", .noat "Segment" "source", .noat "Segment" "target", .noat "Segment" "marks", .noat "Segment" "number", .noat "Segment" "answer", .noat "Segment" "room", .noat "Segment" "data", .meth "Segment" "told", .meth "Segment" "numbered", .noat "Taker" "wanted", .noat "Taker" "whole_room", .noat "Taker" "ahead", .noat "Taker" "unread"]
def fa4 : List He.Fa := [.noat "Taker" "over", .meth "Taker" "free", .meth "Taker" "take", .meth "Taker" "come_ready", .meth "Taker" "wants", .meth "Taker" "read", .meth "Taker" "ready", .meth "Taker" "ended", .noat "Talk" "here", .noat "Talk" "there", .noat "Talk" "begun_with", .noat "Talk" "giver", .noat "Talk" "taker", .noat "Talk" "other_first", .noat "Talk" "last_tick", .noat "Talk" "ending", .noat "Talk" "finished", .noat "Talk" "rested", .meth "Talk" "begin_taker", .meth "Talk" "is_open"]
def fa5 : List He.Fa := [.meth "Talk" "is_over", .meth "Talk" "pass_to", .meth "Talk" "is_answer", .meth "Talk" "is_cut_by", .meth "Talk" "made", .meth "Talk" "segment_of", .meth "Talk" "heard", .meth "Talk" "take", .meth "Talk" "counted", .meth "Talk" "due", .meth "Talk" "cut", .meth "Talk" "stand", .meth "Talk" "write", .meth "Talk" "finish", .meth "Talk" "read", .meth "Talk" "ready", .meth "Talk" "firsts", .meth "Talk" "next_number", .int "MOST_DATA_bits" 1000, .int "MOST_BYTE" 255]
def fa6 : List He.Fa := [.int "LEAST_SIZE" 2, .int "MOST_SIZE" 4294967296, .int "SIZE_givers" 4294967296, .int "MOST_IN_PAIR" 200, .int "MOST_KEPT" 512, .int "LONGEST" 16, .int "MOST_NUMBER" 4294967295, .int "MOST_ROOM_segments" 128, .int "MOST_DATA_segments" 200, .int "SIZE_takers" 4294967296, .int "MOST_ROOM_takers" 128, .int "SIZE_talks" 4294967296, .int "MOST_ITEMS" 32, .int "FIRST_WAIT" 4, .int "ROOM" 128, .int "MOST_TRIES" 16, .int "RESTS" 120, .str "LETTERS" "aceoq", .free "isinstance", .free "int"]
def fa7 : List He.Fa := [.free "bool", .free "tuple", .free "str", .free "len", .free "all", .free "min", .free "max", .free "enumerate", .free "range"]
def fa : List He.Fa := fa0 ++ fa1 ++ fa2 ++ fa3 ++ fa4 ++ fa5 ++ fa6 ++ fa7
def nm0 : List PySem.Str := ["WireError", "NoData", "NoNumber", "NoSegment", "NoTick", "NoPort", "NoSize", "MOST_DATA_bits", "MOST_BYTE", "is_whole", "is_data", "LEAST_SIZE", "MOST_SIZE", "need_size", "need_number", "moved", "far", "SIZE_givers", "MOST_IN_PAIR", "MOST_KEPT"]
def nm1 : List PySem.Str := ["LONGEST", "is_number", "is_number_givers", "Giver", "LETTERS", "MOST_NUMBER", "MOST_ROOM_segments", "MOST_DATA_segments", "is_from_nought", "are_marks", "Segment", "SIZE_takers", "MOST_ROOM_takers", "is_within", "Taker", "SIZE_talks", "MOST_ITEMS", "FIRST_WAIT", "ROOM", "MOST_TRIES"]
def nm2 : List PySem.Str := ["RESTS", "is_number_talks", "need_tick", "Talk", "_law_mixed", "_law_draw", "_law_next", "_law_first", "_law_bytes", "_law_begun", "_law_sent", "_law_come", "_law_ticked", "_law_road", "_law_wrote", "_law_own", "_law_right", "_law_all_come", "_law_ended", "_law_ends_right"]
def nm3 : List PySem.Str := ["_law_clean"]
def nms : List PySem.Str := nm0 ++ nm1 ++ nm2 ++ nm3
abbrev R : PySem.W.OpenRow := PySem.W.OpenLaw.row PySem.Challenge.rw_surewire_k81_whole_two_talks
abbrev hk : PySem.W.Hook := He.hookD 5 fa fn
def ob (s : PySem.W.SharedT) : He.AlD := He.obsDG 5 fa fn (HandSHeadRun.getT s)
theorem ob_eq (s : PySem.W.SharedT) : ob s = hk.obs s.abs := He.obsDG_eq (HandSHeadRun.getT_eq s)
theorem run (w : World) : HandSHeadRun.RunEq R (PySem.W.view R.prog [70]) hk ob 6000 nms w := by
  intro os
  kernel_rfl
end SW
end
section
set_option maxRecDepth 100000
/-! What the top has left, by names. -/
namespace SW
open PySem PySem.Spec PyProof.Rows L2
structure Says (K : PySem.W.Frag) (mg : Str → Option Value) : Prop where
  ex : ∃ h : Heap, K.In h ∧ h.Ns mainGlobals mg ∧ He.SaysD fa fn K
section
variable {K : PySem.W.Frag} {mg : Str → Option Value}
theorem Says.glo (S : Says K mg) (i : Nat) {x : Str} (h : fa[i]? = some (.glo x)) : mg x = some (.ref (He.ga K x)) := by
  obtain ⟨_, X, G, c⟩ := S.ex
  exact He.glo_ok X G (c.fact i h)
theorem Says.free (S : Says K mg) (i : Nat) {x : Str} (h : fa[i]? = some (.free x)) : mg x = none := by
  obtain ⟨_, X, G, c⟩ := S.ex
  exact He.free_ok X G (c.fact i h)
theorem Says.int (S : Says K mg) (i : Nat) {x : Str} {n : Int} (h : fa[i]? = some (.int x n)) : ∃ t, mg x = some (.int n t) := by
  obtain ⟨_, X, G, c⟩ := S.ex
  exact He.int_ok X G (c.fact i h)
theorem Says.str (S : Says K mg) (i : Nat) {x z : Str} (h : fa[i]? = some (.str x z)) : ∃ t, mg x = some (.str z t) := by
  obtain ⟨_, X, G, c⟩ := S.ex
  exact He.str_ok X G (c.fact i h)
theorem Says.cls (S : Says K mg) (i : Nat) {x : Str} (h : fa[i]? = some (.cls x)) : Cls K (He.ga K x) := by
  obtain ⟨_, X, G, c⟩ := S.ex
  exact He.cls_ok (c.fact i h)
theorem Says.noat (S : Says K mg) (i : Nat) {x f : Str} (h : fa[i]? = some (.noat x f)) : NoAttr K (He.ga K x) f := by
  obtain ⟨_, X, G, c⟩ := S.ex
  exact He.noat_ok (c.fact i h)
theorem Says.meth (S : Says K mg) (i : Nat) {x f : Str} (h : fa[i]? = some (.meth x f)) : Meth K (He.ga K x) f (He.ma K (He.ga K x) f) := by
  obtain ⟨_, X, G, c⟩ := S.ex
  exact He.meth_ok (c.fact i h)
theorem Says.mkr (S : Says K mg) (i : Nat) {x : Str} (h : fa[i]? = some (.mkr x)) : Mk K (He.ga K x) (He.ma K (He.ga K x) "__init__") := by
  obtain ⟨_, X, G, c⟩ := S.ex
  exact He.mkr_ok (c.fact i h)
theorem Says.def_ (S : Says K mg) (i : Nat) {d : He.DefD} (h : fn[i]? = some d) : ∃ fd, FunD K d.name d.qual d.params d.body d.scope (d.dvs K) (d.kws K) (He.fAd K d.at_) fd := by
  obtain ⟨_, X, G, c⟩ := S.ex
  exact c.def_ i h
theorem Says.g_is_whole (S : Says K mg) : mg "is_whole" = some (.ref (He.ga K "is_whole")) := S.glo 0 rfl
theorem Says.g_is_data (S : Says K mg) : mg "is_data" = some (.ref (He.ga K "is_data")) := S.glo 1 rfl
theorem Says.g_need_size (S : Says K mg) : mg "need_size" = some (.ref (He.ga K "need_size")) := S.glo 2 rfl
theorem Says.g_need_number (S : Says K mg) : mg "need_number" = some (.ref (He.ga K "need_number")) := S.glo 3 rfl
theorem Says.g_moved (S : Says K mg) : mg "moved" = some (.ref (He.ga K "moved")) := S.glo 4 rfl
theorem Says.g_far (S : Says K mg) : mg "far" = some (.ref (He.ga K "far")) := S.glo 5 rfl
theorem Says.g_is_number_givers (S : Says K mg) : mg "is_number_givers" = some (.ref (He.ga K "is_number_givers")) := S.glo 6 rfl
theorem Says.g_is_from_nought (S : Says K mg) : mg "is_from_nought" = some (.ref (He.ga K "is_from_nought")) := S.glo 7 rfl
theorem Says.g_are_marks (S : Says K mg) : mg "are_marks" = some (.ref (He.ga K "are_marks")) := S.glo 8 rfl
theorem Says.g_is_within (S : Says K mg) : mg "is_within" = some (.ref (He.ga K "is_within")) := S.glo 9 rfl
theorem Says.g_is_number_talks (S : Says K mg) : mg "is_number_talks" = some (.ref (He.ga K "is_number_talks")) := S.glo 10 rfl
theorem Says.g_need_tick (S : Says K mg) : mg "need_tick" = some (.ref (He.ga K "need_tick")) := S.glo 11 rfl
theorem Says.g__law_mixed (S : Says K mg) : mg "_law_mixed" = some (.ref (He.ga K "_law_mixed")) := S.glo 12 rfl
theorem Says.g__law_draw (S : Says K mg) : mg "_law_draw" = some (.ref (He.ga K "_law_draw")) := S.glo 13 rfl
theorem Says.g__law_next (S : Says K mg) : mg "_law_next" = some (.ref (He.ga K "_law_next")) := S.glo 14 rfl
theorem Says.g__law_first (S : Says K mg) : mg "_law_first" = some (.ref (He.ga K "_law_first")) := S.glo 15 rfl
theorem Says.g__law_bytes (S : Says K mg) : mg "_law_bytes" = some (.ref (He.ga K "_law_bytes")) := S.glo 16 rfl
theorem Says.g__law_begun (S : Says K mg) : mg "_law_begun" = some (.ref (He.ga K "_law_begun")) := S.glo 17 rfl
theorem Says.g__law_sent (S : Says K mg) : mg "_law_sent" = some (.ref (He.ga K "_law_sent")) := S.glo 18 rfl
theorem Says.g__law_come (S : Says K mg) : mg "_law_come" = some (.ref (He.ga K "_law_come")) := S.glo 19 rfl
theorem Says.g__law_ticked (S : Says K mg) : mg "_law_ticked" = some (.ref (He.ga K "_law_ticked")) := S.glo 20 rfl
theorem Says.g__law_road (S : Says K mg) : mg "_law_road" = some (.ref (He.ga K "_law_road")) := S.glo 21 rfl
theorem Says.g__law_wrote (S : Says K mg) : mg "_law_wrote" = some (.ref (He.ga K "_law_wrote")) := S.glo 22 rfl
theorem Says.g__law_own (S : Says K mg) : mg "_law_own" = some (.ref (He.ga K "_law_own")) := S.glo 23 rfl
theorem Says.g__law_right (S : Says K mg) : mg "_law_right" = some (.ref (He.ga K "_law_right")) := S.glo 24 rfl
theorem Says.g__law_all_come (S : Says K mg) : mg "_law_all_come" = some (.ref (He.ga K "_law_all_come")) := S.glo 25 rfl
theorem Says.g__law_ended (S : Says K mg) : mg "_law_ended" = some (.ref (He.ga K "_law_ended")) := S.glo 26 rfl
theorem Says.g__law_ends_right (S : Says K mg) : mg "_law_ends_right" = some (.ref (He.ga K "_law_ends_right")) := S.glo 27 rfl
theorem Says.g__law_clean (S : Says K mg) : mg "_law_clean" = some (.ref (He.ga K "_law_clean")) := S.glo 28 rfl
theorem Says.g_law (S : Says K mg) : mg "law" = some (.ref (He.ga K "law")) := S.glo 29 rfl
theorem Says.g_Giver (S : Says K mg) : mg "Giver" = some (.ref (He.ga K "Giver")) := S.glo 30 rfl
theorem Says.c_Giver (S : Says K mg) : Cls K (He.ga K "Giver") := S.cls 31 rfl
theorem Says.k_Giver (S : Says K mg) : Mk K (He.ga K "Giver") (He.ma K (He.ga K "Giver") "__init__") := S.mkr 32 rfl
theorem Says.g_Segment (S : Says K mg) : mg "Segment" = some (.ref (He.ga K "Segment")) := S.glo 33 rfl
theorem Says.c_Segment (S : Says K mg) : Cls K (He.ga K "Segment") := S.cls 34 rfl
theorem Says.k_Segment (S : Says K mg) : Mk K (He.ga K "Segment") (He.ma K (He.ga K "Segment") "__init__") := S.mkr 35 rfl
theorem Says.g_Taker (S : Says K mg) : mg "Taker" = some (.ref (He.ga K "Taker")) := S.glo 36 rfl
theorem Says.c_Taker (S : Says K mg) : Cls K (He.ga K "Taker") := S.cls 37 rfl
theorem Says.k_Taker (S : Says K mg) : Mk K (He.ga K "Taker") (He.ma K (He.ga K "Taker") "__init__") := S.mkr 38 rfl
theorem Says.g_Talk (S : Says K mg) : mg "Talk" = some (.ref (He.ga K "Talk")) := S.glo 39 rfl
theorem Says.c_Talk (S : Says K mg) : Cls K (He.ga K "Talk") := S.cls 40 rfl
theorem Says.k_Talk (S : Says K mg) : Mk K (He.ga K "Talk") (He.ma K (He.ga K "Talk") "__init__") := S.mkr 41 rfl
theorem Says.n_Giver_base (S : Says K mg) : NoAttr K (He.ga K "Giver") "base" := S.noat 42 rfl
theorem Says.n_Giver_most (S : Says K mg) : NoAttr K (He.ga K "Giver") "most" := S.noat 43 rfl
theorem Says.n_Giver_first_wait (S : Says K mg) : NoAttr K (He.ga K "Giver") "first_wait" := S.noat 44 rfl
theorem Says.n_Giver_wait (S : Says K mg) : NoAttr K (He.ga K "Giver") "wait" := S.noat 45 rfl
theorem Says.n_Giver_kept (S : Says K mg) : NoAttr K (He.ga K "Giver") "kept" := S.noat 46 rfl
theorem Says.n_Giver_sent (S : Says K mg) : NoAttr K (He.ga K "Giver") "sent" := S.noat 47 rfl
theorem Says.n_Giver_reach (S : Says K mg) : NoAttr K (He.ga K "Giver") "reach" := S.noat 48 rfl
theorem Says.n_Giver_pace (S : Says K mg) : NoAttr K (He.ga K "Giver") "pace" := S.noat 49 rfl
theorem Says.n_Giver_since (S : Says K mg) : NoAttr K (He.ga K "Giver") "since" := S.noat 50 rfl
theorem Says.n_Giver_tried (S : Says K mg) : NoAttr K (He.ga K "Giver") "tried" := S.noat 51 rfl
theorem Says.n_Giver_passed (S : Says K mg) : NoAttr K (He.ga K "Giver") "passed" := S.noat 52 rfl
theorem Says.n_Giver_finished (S : Says K mg) : NoAttr K (He.ga K "Giver") "finished" := S.noat 53 rfl
theorem Says.n_Giver_now (S : Says K mg) : NoAttr K (He.ga K "Giver") "now" := S.noat 54 rfl
theorem Says.m_Giver_need_tick (S : Says K mg) : Meth K (He.ga K "Giver") "need_tick" (He.ma K (He.ga K "Giver") "need_tick") := S.meth 55 rfl
theorem Says.m_Giver_is_counted (S : Says K mg) : Meth K (He.ga K "Giver") "is_counted" (He.ma K (He.ga K "Giver") "is_counted") := S.meth 56 rfl
theorem Says.m_Giver_count (S : Says K mg) : Meth K (He.ga K "Giver") "count" (He.ma K (He.ga K "Giver") "count") := S.meth 57 rfl
theorem Says.m_Giver_write (S : Says K mg) : Meth K (He.ga K "Giver") "write" (He.ma K (He.ga K "Giver") "write") := S.meth 58 rfl
theorem Says.m_Giver_finish (S : Says K mg) : Meth K (He.ga K "Giver") "finish" (He.ma K (He.ga K "Giver") "finish") := S.meth 59 rfl
theorem Says.m_Giver_heard (S : Says K mg) : Meth K (He.ga K "Giver") "heard" (He.ma K (He.ga K "Giver") "heard") := S.meth 60 rfl
theorem Says.m_Giver_again (S : Says K mg) : Meth K (He.ga K "Giver") "again" (He.ma K (He.ga K "Giver") "again") := S.meth 61 rfl
theorem Says.m_Giver_due (S : Says K mg) : Meth K (He.ga K "Giver") "due" (He.ma K (He.ga K "Giver") "due") := S.meth 62 rfl
theorem Says.m_Giver_tries (S : Says K mg) : Meth K (He.ga K "Giver") "tries" (He.ma K (He.ga K "Giver") "tries") := S.meth 63 rfl
theorem Says.m_Giver_left (S : Says K mg) : Meth K (He.ga K "Giver") "left" (He.ma K (He.ga K "Giver") "left") := S.meth 64 rfl
theorem Says.m_Giver_answered (S : Says K mg) : Meth K (He.ga K "Giver") "answered" (He.ma K (He.ga K "Giver") "answered") := S.meth 65 rfl
theorem Says.m_Giver_next_number (S : Says K mg) : Meth K (He.ga K "Giver") "next_number" (He.ma K (He.ga K "Giver") "next_number") := S.meth 66 rfl
theorem Says.n_Segment_source (S : Says K mg) : NoAttr K (He.ga K "Segment") "source" := S.noat 67 rfl
theorem Says.n_Segment_target (S : Says K mg) : NoAttr K (He.ga K "Segment") "target" := S.noat 68 rfl
theorem Says.n_Segment_marks (S : Says K mg) : NoAttr K (He.ga K "Segment") "marks" := S.noat 69 rfl
theorem Says.n_Segment_number (S : Says K mg) : NoAttr K (He.ga K "Segment") "number" := S.noat 70 rfl
theorem Says.n_Segment_answer (S : Says K mg) : NoAttr K (He.ga K "Segment") "answer" := S.noat 71 rfl
theorem Says.n_Segment_room (S : Says K mg) : NoAttr K (He.ga K "Segment") "room" := S.noat 72 rfl
theorem Says.n_Segment_data (S : Says K mg) : NoAttr K (He.ga K "Segment") "data" := S.noat 73 rfl
theorem Says.m_Segment_told (S : Says K mg) : Meth K (He.ga K "Segment") "told" (He.ma K (He.ga K "Segment") "told") := S.meth 74 rfl
theorem Says.m_Segment_numbered (S : Says K mg) : Meth K (He.ga K "Segment") "numbered" (He.ma K (He.ga K "Segment") "numbered") := S.meth 75 rfl
theorem Says.n_Taker_wanted (S : Says K mg) : NoAttr K (He.ga K "Taker") "wanted" := S.noat 76 rfl
theorem Says.n_Taker_whole_room (S : Says K mg) : NoAttr K (He.ga K "Taker") "whole_room" := S.noat 77 rfl
theorem Says.n_Taker_ahead (S : Says K mg) : NoAttr K (He.ga K "Taker") "ahead" := S.noat 78 rfl
theorem Says.n_Taker_unread (S : Says K mg) : NoAttr K (He.ga K "Taker") "unread" := S.noat 79 rfl
theorem Says.n_Taker_over (S : Says K mg) : NoAttr K (He.ga K "Taker") "over" := S.noat 80 rfl
theorem Says.m_Taker_free (S : Says K mg) : Meth K (He.ga K "Taker") "free" (He.ma K (He.ga K "Taker") "free") := S.meth 81 rfl
theorem Says.m_Taker_take (S : Says K mg) : Meth K (He.ga K "Taker") "take" (He.ma K (He.ga K "Taker") "take") := S.meth 82 rfl
theorem Says.m_Taker_come_ready (S : Says K mg) : Meth K (He.ga K "Taker") "come_ready" (He.ma K (He.ga K "Taker") "come_ready") := S.meth 83 rfl
theorem Says.m_Taker_wants (S : Says K mg) : Meth K (He.ga K "Taker") "wants" (He.ma K (He.ga K "Taker") "wants") := S.meth 84 rfl
theorem Says.m_Taker_read (S : Says K mg) : Meth K (He.ga K "Taker") "read" (He.ma K (He.ga K "Taker") "read") := S.meth 85 rfl
theorem Says.m_Taker_ready (S : Says K mg) : Meth K (He.ga K "Taker") "ready" (He.ma K (He.ga K "Taker") "ready") := S.meth 86 rfl
theorem Says.m_Taker_ended (S : Says K mg) : Meth K (He.ga K "Taker") "ended" (He.ma K (He.ga K "Taker") "ended") := S.meth 87 rfl
theorem Says.n_Talk_here (S : Says K mg) : NoAttr K (He.ga K "Talk") "here" := S.noat 88 rfl
theorem Says.n_Talk_there (S : Says K mg) : NoAttr K (He.ga K "Talk") "there" := S.noat 89 rfl
theorem Says.n_Talk_begun_with (S : Says K mg) : NoAttr K (He.ga K "Talk") "begun_with" := S.noat 90 rfl
theorem Says.n_Talk_giver (S : Says K mg) : NoAttr K (He.ga K "Talk") "giver" := S.noat 91 rfl
theorem Says.n_Talk_taker (S : Says K mg) : NoAttr K (He.ga K "Talk") "taker" := S.noat 92 rfl
theorem Says.n_Talk_other_first (S : Says K mg) : NoAttr K (He.ga K "Talk") "other_first" := S.noat 93 rfl
theorem Says.n_Talk_last_tick (S : Says K mg) : NoAttr K (He.ga K "Talk") "last_tick" := S.noat 94 rfl
theorem Says.n_Talk_ending (S : Says K mg) : NoAttr K (He.ga K "Talk") "ending" := S.noat 95 rfl
theorem Says.n_Talk_finished (S : Says K mg) : NoAttr K (He.ga K "Talk") "finished" := S.noat 96 rfl
theorem Says.n_Talk_rested (S : Says K mg) : NoAttr K (He.ga K "Talk") "rested" := S.noat 97 rfl
theorem Says.m_Talk_begin_taker (S : Says K mg) : Meth K (He.ga K "Talk") "begin_taker" (He.ma K (He.ga K "Talk") "begin_taker") := S.meth 98 rfl
theorem Says.m_Talk_is_open (S : Says K mg) : Meth K (He.ga K "Talk") "is_open" (He.ma K (He.ga K "Talk") "is_open") := S.meth 99 rfl
theorem Says.m_Talk_is_over (S : Says K mg) : Meth K (He.ga K "Talk") "is_over" (He.ma K (He.ga K "Talk") "is_over") := S.meth 100 rfl
theorem Says.m_Talk_pass_to (S : Says K mg) : Meth K (He.ga K "Talk") "pass_to" (He.ma K (He.ga K "Talk") "pass_to") := S.meth 101 rfl
theorem Says.m_Talk_is_answer (S : Says K mg) : Meth K (He.ga K "Talk") "is_answer" (He.ma K (He.ga K "Talk") "is_answer") := S.meth 102 rfl
theorem Says.m_Talk_is_cut_by (S : Says K mg) : Meth K (He.ga K "Talk") "is_cut_by" (He.ma K (He.ga K "Talk") "is_cut_by") := S.meth 103 rfl
theorem Says.m_Talk_made (S : Says K mg) : Meth K (He.ga K "Talk") "made" (He.ma K (He.ga K "Talk") "made") := S.meth 104 rfl
theorem Says.m_Talk_segment_of (S : Says K mg) : Meth K (He.ga K "Talk") "segment_of" (He.ma K (He.ga K "Talk") "segment_of") := S.meth 105 rfl
theorem Says.m_Talk_heard (S : Says K mg) : Meth K (He.ga K "Talk") "heard" (He.ma K (He.ga K "Talk") "heard") := S.meth 106 rfl
theorem Says.m_Talk_take (S : Says K mg) : Meth K (He.ga K "Talk") "take" (He.ma K (He.ga K "Talk") "take") := S.meth 107 rfl
theorem Says.m_Talk_counted (S : Says K mg) : Meth K (He.ga K "Talk") "counted" (He.ma K (He.ga K "Talk") "counted") := S.meth 108 rfl
theorem Says.m_Talk_due (S : Says K mg) : Meth K (He.ga K "Talk") "due" (He.ma K (He.ga K "Talk") "due") := S.meth 109 rfl
theorem Says.m_Talk_cut (S : Says K mg) : Meth K (He.ga K "Talk") "cut" (He.ma K (He.ga K "Talk") "cut") := S.meth 110 rfl
theorem Says.m_Talk_stand (S : Says K mg) : Meth K (He.ga K "Talk") "stand" (He.ma K (He.ga K "Talk") "stand") := S.meth 111 rfl
theorem Says.m_Talk_write (S : Says K mg) : Meth K (He.ga K "Talk") "write" (He.ma K (He.ga K "Talk") "write") := S.meth 112 rfl
theorem Says.m_Talk_finish (S : Says K mg) : Meth K (He.ga K "Talk") "finish" (He.ma K (He.ga K "Talk") "finish") := S.meth 113 rfl
theorem Says.m_Talk_read (S : Says K mg) : Meth K (He.ga K "Talk") "read" (He.ma K (He.ga K "Talk") "read") := S.meth 114 rfl
theorem Says.m_Talk_ready (S : Says K mg) : Meth K (He.ga K "Talk") "ready" (He.ma K (He.ga K "Talk") "ready") := S.meth 115 rfl
theorem Says.m_Talk_firsts (S : Says K mg) : Meth K (He.ga K "Talk") "firsts" (He.ma K (He.ga K "Talk") "firsts") := S.meth 116 rfl
theorem Says.m_Talk_next_number (S : Says K mg) : Meth K (He.ga K "Talk") "next_number" (He.ma K (He.ga K "Talk") "next_number") := S.meth 117 rfl
theorem Says.i_MOST_DATA_bits (S : Says K mg) : ∃ t, mg "MOST_DATA_bits" = some (.int 1000 t) := S.int 118 rfl
theorem Says.i_MOST_BYTE (S : Says K mg) : ∃ t, mg "MOST_BYTE" = some (.int 255 t) := S.int 119 rfl
theorem Says.i_LEAST_SIZE (S : Says K mg) : ∃ t, mg "LEAST_SIZE" = some (.int 2 t) := S.int 120 rfl
theorem Says.i_MOST_SIZE (S : Says K mg) : ∃ t, mg "MOST_SIZE" = some (.int 4294967296 t) := S.int 121 rfl
theorem Says.i_SIZE_givers (S : Says K mg) : ∃ t, mg "SIZE_givers" = some (.int 4294967296 t) := S.int 122 rfl
theorem Says.i_MOST_IN_PAIR (S : Says K mg) : ∃ t, mg "MOST_IN_PAIR" = some (.int 200 t) := S.int 123 rfl
theorem Says.i_MOST_KEPT (S : Says K mg) : ∃ t, mg "MOST_KEPT" = some (.int 512 t) := S.int 124 rfl
theorem Says.i_LONGEST (S : Says K mg) : ∃ t, mg "LONGEST" = some (.int 16 t) := S.int 125 rfl
theorem Says.i_MOST_NUMBER (S : Says K mg) : ∃ t, mg "MOST_NUMBER" = some (.int 4294967295 t) := S.int 126 rfl
theorem Says.i_MOST_ROOM_segments (S : Says K mg) : ∃ t, mg "MOST_ROOM_segments" = some (.int 128 t) := S.int 127 rfl
theorem Says.i_MOST_DATA_segments (S : Says K mg) : ∃ t, mg "MOST_DATA_segments" = some (.int 200 t) := S.int 128 rfl
theorem Says.i_SIZE_takers (S : Says K mg) : ∃ t, mg "SIZE_takers" = some (.int 4294967296 t) := S.int 129 rfl
theorem Says.i_MOST_ROOM_takers (S : Says K mg) : ∃ t, mg "MOST_ROOM_takers" = some (.int 128 t) := S.int 130 rfl
theorem Says.i_SIZE_talks (S : Says K mg) : ∃ t, mg "SIZE_talks" = some (.int 4294967296 t) := S.int 131 rfl
theorem Says.i_MOST_ITEMS (S : Says K mg) : ∃ t, mg "MOST_ITEMS" = some (.int 32 t) := S.int 132 rfl
theorem Says.i_FIRST_WAIT (S : Says K mg) : ∃ t, mg "FIRST_WAIT" = some (.int 4 t) := S.int 133 rfl
theorem Says.i_ROOM (S : Says K mg) : ∃ t, mg "ROOM" = some (.int 128 t) := S.int 134 rfl
theorem Says.i_MOST_TRIES (S : Says K mg) : ∃ t, mg "MOST_TRIES" = some (.int 16 t) := S.int 135 rfl
theorem Says.i_RESTS (S : Says K mg) : ∃ t, mg "RESTS" = some (.int 120 t) := S.int 136 rfl
theorem Says.s_LETTERS (S : Says K mg) : ∃ t, mg "LETTERS" = some (.str "aceoq" t) := S.str 137 rfl
theorem Says.f_isinstance (S : Says K mg) : mg "isinstance" = none := S.free 138 rfl
theorem Says.f_int (S : Says K mg) : mg "int" = none := S.free 139 rfl
theorem Says.f_bool (S : Says K mg) : mg "bool" = none := S.free 140 rfl
theorem Says.f_tuple (S : Says K mg) : mg "tuple" = none := S.free 141 rfl
theorem Says.f_str (S : Says K mg) : mg "str" = none := S.free 142 rfl
theorem Says.f_len (S : Says K mg) : mg "len" = none := S.free 143 rfl
theorem Says.f_all (S : Says K mg) : mg "all" = none := S.free 144 rfl
theorem Says.f_min (S : Says K mg) : mg "min" = none := S.free 145 rfl
theorem Says.f_max (S : Says K mg) : mg "max" = none := S.free 146 rfl
theorem Says.f_enumerate (S : Says K mg) : mg "enumerate" = none := S.free 147 rfl
theorem Says.f_range (S : Says K mg) : mg "range" = none := S.free 148 rfl
theorem Says.u_is_whole (S : Says K mg) : ∃ fd, FunD K "is_whole" "is_whole" (defArgs s_is_whole) (defBody s_is_whole) (defScope s_is_whole) [] [] (He.fAd K ("is_whole", none)) fd := S.def_ 0 (d := d_is_whole) rfl
theorem Says.u_is_data (S : Says K mg) : ∃ fd, FunD K "is_data" "is_data" (defArgs s_is_data) (defBody s_is_data) (defScope s_is_data) [] [] (He.fAd K ("is_data", none)) fd := S.def_ 1 (d := d_is_data) rfl
theorem Says.u_need_size (S : Says K mg) : ∃ fd, FunD K "need_size" "need_size" (defArgs s_need_size) (defBody s_need_size) (defScope s_need_size) [] [] (He.fAd K ("need_size", none)) fd := S.def_ 2 (d := d_need_size) rfl
theorem Says.u_need_number (S : Says K mg) : ∃ fd, FunD K "need_number" "need_number" (defArgs s_need_number) (defBody s_need_number) (defScope s_need_number) [] [] (He.fAd K ("need_number", none)) fd := S.def_ 3 (d := d_need_number) rfl
theorem Says.u_moved (S : Says K mg) : ∃ fd, FunD K "moved" "moved" (defArgs s_moved) (defBody s_moved) (defScope s_moved) [] [] (He.fAd K ("moved", none)) fd := S.def_ 4 (d := d_moved) rfl
theorem Says.u_far (S : Says K mg) : ∃ fd, FunD K "far" "far" (defArgs s_far) (defBody s_far) (defScope s_far) [] [] (He.fAd K ("far", none)) fd := S.def_ 5 (d := d_far) rfl
theorem Says.u_is_number_givers (S : Says K mg) : ∃ fd, FunD K "is_number" "is_number" (defArgs s_is_number_givers) (defBody s_is_number_givers) (defScope s_is_number_givers) [] [] (He.fAd K ("is_number_givers", none)) fd := S.def_ 6 (d := d_is_number_givers) rfl
theorem Says.u_Giver_init (S : Says K mg) : ∃ fd, FunD K "__init__" "Giver.__init__" (defArgs s_Giver_init) (defBody s_Giver_init) (defScope s_Giver_init) [] [] (He.fAd K ("Giver", some "__init__")) fd := S.def_ 7 (d := d_Giver_init) rfl
theorem Says.u_Giver_need_tick (S : Says K mg) : ∃ fd, FunD K "need_tick" "Giver.need_tick" (defArgs s_Giver_need_tick) (defBody s_Giver_need_tick) (defScope s_Giver_need_tick) [] [] (He.fAd K ("Giver", some "need_tick")) fd := S.def_ 8 (d := d_Giver_need_tick) rfl
theorem Says.u_Giver_is_counted (S : Says K mg) : ∃ fd, FunD K "is_counted" "Giver.is_counted" (defArgs s_Giver_is_counted) (defBody s_Giver_is_counted) (defScope s_Giver_is_counted) [] [] (He.fAd K ("Giver", some "is_counted")) fd := S.def_ 9 (d := d_Giver_is_counted) rfl
theorem Says.u_Giver_count (S : Says K mg) : ∃ fd, FunD K "count" "Giver.count" (defArgs s_Giver_count) (defBody s_Giver_count) (defScope s_Giver_count) [] [] (He.fAd K ("Giver", some "count")) fd := S.def_ 10 (d := d_Giver_count) rfl
theorem Says.u_Giver_write (S : Says K mg) : ∃ fd, FunD K "write" "Giver.write" (defArgs s_Giver_write) (defBody s_Giver_write) (defScope s_Giver_write) [] [] (He.fAd K ("Giver", some "write")) fd := S.def_ 11 (d := d_Giver_write) rfl
theorem Says.u_Giver_finish (S : Says K mg) : ∃ fd, FunD K "finish" "Giver.finish" (defArgs s_Giver_finish) (defBody s_Giver_finish) (defScope s_Giver_finish) [] [] (He.fAd K ("Giver", some "finish")) fd := S.def_ 12 (d := d_Giver_finish) rfl
theorem Says.u_Giver_heard (S : Says K mg) : ∃ fd, FunD K "heard" "Giver.heard" (defArgs s_Giver_heard) (defBody s_Giver_heard) (defScope s_Giver_heard) [] [] (He.fAd K ("Giver", some "heard")) fd := S.def_ 13 (d := d_Giver_heard) rfl
theorem Says.u_Giver_again (S : Says K mg) : ∃ fd, FunD K "again" "Giver.again" (defArgs s_Giver_again) (defBody s_Giver_again) (defScope s_Giver_again) [] [] (He.fAd K ("Giver", some "again")) fd := S.def_ 14 (d := d_Giver_again) rfl
theorem Says.u_Giver_due (S : Says K mg) : ∃ fd, FunD K "due" "Giver.due" (defArgs s_Giver_due) (defBody s_Giver_due) (defScope s_Giver_due) [] [] (He.fAd K ("Giver", some "due")) fd := S.def_ 15 (d := d_Giver_due) rfl
theorem Says.u_Giver_tries (S : Says K mg) : ∃ fd, FunD K "tries" "Giver.tries" (defArgs s_Giver_tries) (defBody s_Giver_tries) (defScope s_Giver_tries) [] [] (He.fAd K ("Giver", some "tries")) fd := S.def_ 16 (d := d_Giver_tries) rfl
theorem Says.u_Giver_left (S : Says K mg) : ∃ fd, FunD K "left" "Giver.left" (defArgs s_Giver_left) (defBody s_Giver_left) (defScope s_Giver_left) [] [] (He.fAd K ("Giver", some "left")) fd := S.def_ 17 (d := d_Giver_left) rfl
theorem Says.u_Giver_answered (S : Says K mg) : ∃ fd, FunD K "answered" "Giver.answered" (defArgs s_Giver_answered) (defBody s_Giver_answered) (defScope s_Giver_answered) [] [] (He.fAd K ("Giver", some "answered")) fd := S.def_ 18 (d := d_Giver_answered) rfl
theorem Says.u_Giver_next_number (S : Says K mg) : ∃ fd, FunD K "next_number" "Giver.next_number" (defArgs s_Giver_next_number) (defBody s_Giver_next_number) (defScope s_Giver_next_number) [] [] (He.fAd K ("Giver", some "next_number")) fd := S.def_ 19 (d := d_Giver_next_number) rfl
theorem Says.u_is_from_nought (S : Says K mg) : ∃ fd, FunD K "is_from_nought" "is_from_nought" (defArgs s_is_from_nought) (defBody s_is_from_nought) (defScope s_is_from_nought) [] [] (He.fAd K ("is_from_nought", none)) fd := S.def_ 20 (d := d_is_from_nought) rfl
theorem Says.u_are_marks (S : Says K mg) : ∃ fd, FunD K "are_marks" "are_marks" (defArgs s_are_marks) (defBody s_are_marks) (defScope s_are_marks) [] [] (He.fAd K ("are_marks", none)) fd := S.def_ 21 (d := d_are_marks) rfl
theorem Says.u_Segment_init (S : Says K mg) : ∃ fd, FunD K "__init__" "Segment.__init__" (defArgs s_Segment_init) (defBody s_Segment_init) (defScope s_Segment_init) [] [] (He.fAd K ("Segment", some "__init__")) fd := S.def_ 22 (d := d_Segment_init) rfl
theorem Says.u_Segment_told (S : Says K mg) : ∃ fd, FunD K "told" "Segment.told" (defArgs s_Segment_told) (defBody s_Segment_told) (defScope s_Segment_told) [] [] (He.fAd K ("Segment", some "told")) fd := S.def_ 23 (d := d_Segment_told) rfl
theorem Says.u_Segment_numbered (S : Says K mg) : ∃ fd, FunD K "numbered" "Segment.numbered" (defArgs s_Segment_numbered) (defBody s_Segment_numbered) (defScope s_Segment_numbered) [] [] (He.fAd K ("Segment", some "numbered")) fd := S.def_ 24 (d := d_Segment_numbered) rfl
theorem Says.u_is_within (S : Says K mg) : ∃ fd, FunD K "is_within" "is_within" (defArgs s_is_within) (defBody s_is_within) (defScope s_is_within) [] [] (He.fAd K ("is_within", none)) fd := S.def_ 25 (d := d_is_within) rfl
theorem Says.u_Taker_init (S : Says K mg) : ∃ fd, FunD K "__init__" "Taker.__init__" (defArgs s_Taker_init) (defBody s_Taker_init) (defScope s_Taker_init) [] [] (He.fAd K ("Taker", some "__init__")) fd := S.def_ 26 (d := d_Taker_init) rfl
theorem Says.u_Taker_free (S : Says K mg) : ∃ fd, FunD K "free" "Taker.free" (defArgs s_Taker_free) (defBody s_Taker_free) (defScope s_Taker_free) [] [] (He.fAd K ("Taker", some "free")) fd := S.def_ 27 (d := d_Taker_free) rfl
theorem Says.u_Taker_take (S : Says K mg) : ∃ fd, FunD K "take" "Taker.take" (defArgs s_Taker_take) (defBody s_Taker_take) (defScope s_Taker_take) [] [] (He.fAd K ("Taker", some "take")) fd := S.def_ 28 (d := d_Taker_take) rfl
theorem Says.u_Taker_come_ready (S : Says K mg) : ∃ fd, FunD K "come_ready" "Taker.come_ready" (defArgs s_Taker_come_ready) (defBody s_Taker_come_ready) (defScope s_Taker_come_ready) [] [] (He.fAd K ("Taker", some "come_ready")) fd := S.def_ 29 (d := d_Taker_come_ready) rfl
theorem Says.u_Taker_wants (S : Says K mg) : ∃ fd, FunD K "wants" "Taker.wants" (defArgs s_Taker_wants) (defBody s_Taker_wants) (defScope s_Taker_wants) [] [] (He.fAd K ("Taker", some "wants")) fd := S.def_ 30 (d := d_Taker_wants) rfl
theorem Says.u_Taker_read (S : Says K mg) : ∃ fd, FunD K "read" "Taker.read" (defArgs s_Taker_read) (defBody s_Taker_read) (defScope s_Taker_read) [] [] (He.fAd K ("Taker", some "read")) fd := S.def_ 31 (d := d_Taker_read) rfl
theorem Says.u_Taker_ready (S : Says K mg) : ∃ fd, FunD K "ready" "Taker.ready" (defArgs s_Taker_ready) (defBody s_Taker_ready) (defScope s_Taker_ready) [] [] (He.fAd K ("Taker", some "ready")) fd := S.def_ 32 (d := d_Taker_ready) rfl
theorem Says.u_Taker_ended (S : Says K mg) : ∃ fd, FunD K "ended" "Taker.ended" (defArgs s_Taker_ended) (defBody s_Taker_ended) (defScope s_Taker_ended) [] [] (He.fAd K ("Taker", some "ended")) fd := S.def_ 33 (d := d_Taker_ended) rfl
theorem Says.u_is_number_talks (S : Says K mg) : ∃ fd, FunD K "is_number" "is_number" (defArgs s_is_number_talks) (defBody s_is_number_talks) (defScope s_is_number_talks) [] [] (He.fAd K ("is_number_talks", none)) fd := S.def_ 34 (d := d_is_number_talks) rfl
theorem Says.u_need_tick (S : Says K mg) : ∃ fd, FunD K "need_tick" "need_tick" (defArgs s_need_tick) (defBody s_need_tick) (defScope s_need_tick) [] [] (He.fAd K ("need_tick", none)) fd := S.def_ 35 (d := d_need_tick) rfl
theorem Says.u_Talk_init (S : Says K mg) : ∃ fd, FunD K "__init__" "Talk.__init__" (defArgs s_Talk_init) (defBody s_Talk_init) (defScope s_Talk_init) [.non] [] (He.fAd K ("Talk", some "__init__")) fd := S.def_ 36 (d := d_Talk_init) rfl
theorem Says.u_Talk_begin_taker (S : Says K mg) : ∃ fd, FunD K "begin_taker" "Talk.begin_taker" (defArgs s_Talk_begin_taker) (defBody s_Talk_begin_taker) (defScope s_Talk_begin_taker) [] [] (He.fAd K ("Talk", some "begin_taker")) fd := S.def_ 37 (d := d_Talk_begin_taker) rfl
theorem Says.u_Talk_is_open (S : Says K mg) : ∃ fd, FunD K "is_open" "Talk.is_open" (defArgs s_Talk_is_open) (defBody s_Talk_is_open) (defScope s_Talk_is_open) [] [] (He.fAd K ("Talk", some "is_open")) fd := S.def_ 38 (d := d_Talk_is_open) rfl
theorem Says.u_Talk_is_over (S : Says K mg) : ∃ fd, FunD K "is_over" "Talk.is_over" (defArgs s_Talk_is_over) (defBody s_Talk_is_over) (defScope s_Talk_is_over) [] [] (He.fAd K ("Talk", some "is_over")) fd := S.def_ 39 (d := d_Talk_is_over) rfl
theorem Says.u_Talk_pass_to (S : Says K mg) : ∃ fd, FunD K "pass_to" "Talk.pass_to" (defArgs s_Talk_pass_to) (defBody s_Talk_pass_to) (defScope s_Talk_pass_to) [] [] (He.fAd K ("Talk", some "pass_to")) fd := S.def_ 40 (d := d_Talk_pass_to) rfl
theorem Says.u_Talk_is_answer (S : Says K mg) : ∃ fd, FunD K "is_answer" "Talk.is_answer" (defArgs s_Talk_is_answer) (defBody s_Talk_is_answer) (defScope s_Talk_is_answer) [] [] (He.fAd K ("Talk", some "is_answer")) fd := S.def_ 41 (d := d_Talk_is_answer) rfl
theorem Says.u_Talk_is_cut_by (S : Says K mg) : ∃ fd, FunD K "is_cut_by" "Talk.is_cut_by" (defArgs s_Talk_is_cut_by) (defBody s_Talk_is_cut_by) (defScope s_Talk_is_cut_by) [] [] (He.fAd K ("Talk", some "is_cut_by")) fd := S.def_ 42 (d := d_Talk_is_cut_by) rfl
theorem Says.u_Talk_made (S : Says K mg) : ∃ fd, FunD K "made" "Talk.made" (defArgs s_Talk_made) (defBody s_Talk_made) (defScope s_Talk_made) [] [] (He.fAd K ("Talk", some "made")) fd := S.def_ 43 (d := d_Talk_made) rfl
theorem Says.u_Talk_segment_of (S : Says K mg) : ∃ fd, FunD K "segment_of" "Talk.segment_of" (defArgs s_Talk_segment_of) (defBody s_Talk_segment_of) (defScope s_Talk_segment_of) [] [] (He.fAd K ("Talk", some "segment_of")) fd := S.def_ 44 (d := d_Talk_segment_of) rfl
theorem Says.u_Talk_heard (S : Says K mg) : ∃ fd, FunD K "heard" "Talk.heard" (defArgs s_Talk_heard) (defBody s_Talk_heard) (defScope s_Talk_heard) [] [] (He.fAd K ("Talk", some "heard")) fd := S.def_ 45 (d := d_Talk_heard) rfl
theorem Says.u_Talk_take (S : Says K mg) : ∃ fd, FunD K "take" "Talk.take" (defArgs s_Talk_take) (defBody s_Talk_take) (defScope s_Talk_take) [] [] (He.fAd K ("Talk", some "take")) fd := S.def_ 46 (d := d_Talk_take) rfl
theorem Says.u_Talk_counted (S : Says K mg) : ∃ fd, FunD K "counted" "Talk.counted" (defArgs s_Talk_counted) (defBody s_Talk_counted) (defScope s_Talk_counted) [] [] (He.fAd K ("Talk", some "counted")) fd := S.def_ 47 (d := d_Talk_counted) rfl
theorem Says.u_Talk_due (S : Says K mg) : ∃ fd, FunD K "due" "Talk.due" (defArgs s_Talk_due) (defBody s_Talk_due) (defScope s_Talk_due) [] [] (He.fAd K ("Talk", some "due")) fd := S.def_ 48 (d := d_Talk_due) rfl
theorem Says.u_Talk_cut (S : Says K mg) : ∃ fd, FunD K "cut" "Talk.cut" (defArgs s_Talk_cut) (defBody s_Talk_cut) (defScope s_Talk_cut) [] [] (He.fAd K ("Talk", some "cut")) fd := S.def_ 49 (d := d_Talk_cut) rfl
theorem Says.u_Talk_stand (S : Says K mg) : ∃ fd, FunD K "stand" "Talk.stand" (defArgs s_Talk_stand) (defBody s_Talk_stand) (defScope s_Talk_stand) [] [] (He.fAd K ("Talk", some "stand")) fd := S.def_ 50 (d := d_Talk_stand) rfl
theorem Says.u_Talk_write (S : Says K mg) : ∃ fd, FunD K "write" "Talk.write" (defArgs s_Talk_write) (defBody s_Talk_write) (defScope s_Talk_write) [] [] (He.fAd K ("Talk", some "write")) fd := S.def_ 51 (d := d_Talk_write) rfl
theorem Says.u_Talk_finish (S : Says K mg) : ∃ fd, FunD K "finish" "Talk.finish" (defArgs s_Talk_finish) (defBody s_Talk_finish) (defScope s_Talk_finish) [] [] (He.fAd K ("Talk", some "finish")) fd := S.def_ 52 (d := d_Talk_finish) rfl
theorem Says.u_Talk_read (S : Says K mg) : ∃ fd, FunD K "read" "Talk.read" (defArgs s_Talk_read) (defBody s_Talk_read) (defScope s_Talk_read) [] [] (He.fAd K ("Talk", some "read")) fd := S.def_ 53 (d := d_Talk_read) rfl
theorem Says.u_Talk_ready (S : Says K mg) : ∃ fd, FunD K "ready" "Talk.ready" (defArgs s_Talk_ready) (defBody s_Talk_ready) (defScope s_Talk_ready) [] [] (He.fAd K ("Talk", some "ready")) fd := S.def_ 54 (d := d_Talk_ready) rfl
theorem Says.u_Talk_firsts (S : Says K mg) : ∃ fd, FunD K "firsts" "Talk.firsts" (defArgs s_Talk_firsts) (defBody s_Talk_firsts) (defScope s_Talk_firsts) [] [] (He.fAd K ("Talk", some "firsts")) fd := S.def_ 55 (d := d_Talk_firsts) rfl
theorem Says.u_Talk_next_number (S : Says K mg) : ∃ fd, FunD K "next_number" "Talk.next_number" (defArgs s_Talk_next_number) (defBody s_Talk_next_number) (defScope s_Talk_next_number) [] [] (He.fAd K ("Talk", some "next_number")) fd := S.def_ 56 (d := d_Talk_next_number) rfl
theorem Says.u_L_mixed (S : Says K mg) : ∃ fd, FunD K "_law_mixed" "_law_mixed" (defArgs s_L_mixed) (defBody s_L_mixed) (defScope s_L_mixed) [] [] (He.fAd K ("_law_mixed", none)) fd := S.def_ 57 (d := d_L_mixed) rfl
theorem Says.u_L_draw (S : Says K mg) : ∃ fd, FunD K "_law_draw" "_law_draw" (defArgs s_L_draw) (defBody s_L_draw) (defScope s_L_draw) [] [] (He.fAd K ("_law_draw", none)) fd := S.def_ 58 (d := d_L_draw) rfl
theorem Says.u_L_next (S : Says K mg) : ∃ fd, FunD K "_law_next" "_law_next" (defArgs s_L_next) (defBody s_L_next) (defScope s_L_next) [] [] (He.fAd K ("_law_next", none)) fd := S.def_ 59 (d := d_L_next) rfl
theorem Says.u_L_first (S : Says K mg) : ∃ fd, FunD K "_law_first" "_law_first" (defArgs s_L_first) (defBody s_L_first) (defScope s_L_first) [] [] (He.fAd K ("_law_first", none)) fd := S.def_ 60 (d := d_L_first) rfl
theorem Says.u_L_bytes (S : Says K mg) : ∃ fd, FunD K "_law_bytes" "_law_bytes" (defArgs s_L_bytes) (defBody s_L_bytes) (defScope s_L_bytes) [] [] (He.fAd K ("_law_bytes", none)) fd := S.def_ 61 (d := d_L_bytes) rfl
theorem Says.u_L_begun (S : Says K mg) : ∃ fd, FunD K "_law_begun" "_law_begun" (defArgs s_L_begun) (defBody s_L_begun) (defScope s_L_begun) [] [] (He.fAd K ("_law_begun", none)) fd := S.def_ 62 (d := d_L_begun) rfl
theorem Says.u_L_sent (S : Says K mg) : ∃ fd, FunD K "_law_sent" "_law_sent" (defArgs s_L_sent) (defBody s_L_sent) (defScope s_L_sent) [] [] (He.fAd K ("_law_sent", none)) fd := S.def_ 63 (d := d_L_sent) rfl
theorem Says.u_L_come (S : Says K mg) : ∃ fd, FunD K "_law_come" "_law_come" (defArgs s_L_come) (defBody s_L_come) (defScope s_L_come) [] [] (He.fAd K ("_law_come", none)) fd := S.def_ 64 (d := d_L_come) rfl
theorem Says.u_L_ticked (S : Says K mg) : ∃ fd, FunD K "_law_ticked" "_law_ticked" (defArgs s_L_ticked) (defBody s_L_ticked) (defScope s_L_ticked) [] [] (He.fAd K ("_law_ticked", none)) fd := S.def_ 65 (d := d_L_ticked) rfl
theorem Says.u_L_road (S : Says K mg) : ∃ fd, FunD K "_law_road" "_law_road" (defArgs s_L_road) (defBody s_L_road) (defScope s_L_road) [] [] (He.fAd K ("_law_road", none)) fd := S.def_ 66 (d := d_L_road) rfl
theorem Says.u_L_wrote (S : Says K mg) : ∃ fd, FunD K "_law_wrote" "_law_wrote" (defArgs s_L_wrote) (defBody s_L_wrote) (defScope s_L_wrote) [] [] (He.fAd K ("_law_wrote", none)) fd := S.def_ 67 (d := d_L_wrote) rfl
theorem Says.u_L_own (S : Says K mg) : ∃ fd, FunD K "_law_own" "_law_own" (defArgs s_L_own) (defBody s_L_own) (defScope s_L_own) [] [] (He.fAd K ("_law_own", none)) fd := S.def_ 68 (d := d_L_own) rfl
theorem Says.u_L_right (S : Says K mg) : ∃ fd, FunD K "_law_right" "_law_right" (defArgs s_L_right) (defBody s_L_right) (defScope s_L_right) [] [] (He.fAd K ("_law_right", none)) fd := S.def_ 69 (d := d_L_right) rfl
theorem Says.u_L_all_come (S : Says K mg) : ∃ fd, FunD K "_law_all_come" "_law_all_come" (defArgs s_L_all_come) (defBody s_L_all_come) (defScope s_L_all_come) [] [] (He.fAd K ("_law_all_come", none)) fd := S.def_ 70 (d := d_L_all_come) rfl
theorem Says.u_L_ended (S : Says K mg) : ∃ fd, FunD K "_law_ended" "_law_ended" (defArgs s_L_ended) (defBody s_L_ended) (defScope s_L_ended) [] [] (He.fAd K ("_law_ended", none)) fd := S.def_ 71 (d := d_L_ended) rfl
theorem Says.u_L_ends_right (S : Says K mg) : ∃ fd, FunD K "_law_ends_right" "_law_ends_right" (defArgs s_L_ends_right) (defBody s_L_ends_right) (defScope s_L_ends_right) [] [] (He.fAd K ("_law_ends_right", none)) fd := S.def_ 72 (d := d_L_ends_right) rfl
theorem Says.u_L_clean (S : Says K mg) : ∃ fd, FunD K "_law_clean" "_law_clean" (defArgs s_L_clean) (defBody s_L_clean) (defScope s_L_clean) [] [] (He.fAd K ("_law_clean", none)) fd := S.def_ 73 (d := d_L_clean) rfl
theorem Says.u_law (S : Says K mg) : ∃ fd, FunD K "law" "law" (defArgs s_law) (defBody s_law) (defScope s_law) [] [] (He.fAd K ("law", none)) fd := S.def_ 74 (d := d_law) rfl
end
end SW
end
section
set_option maxRecDepth 100000
/-! Short rules for this text. -/
namespace SW
open PySem PySem.Spec PyProof.Rows L2
/-! ### defs by name -/
structure Fn (P : Program) (w : World) (K : PySem.W.Frag) (mg : Str → Option Value) (base : Heap) (k : Nat) (x : Str) (ps : List Str) (sp : Sp) : Prop where
  ok : ∃ fd, FnOk P w K mg base CX0 k (He.ga K x) fd ps sp ∧ Binds K fd ps []
  kp : PySem.W.keepIn K (.ref (He.ga K x)) = true
  gl : mg x = some (.ref (He.ga K x))
structure Mt (P : Program) (w : World) (K : PySem.W.Frag) (mg : Str → Option Value) (base : Heap) (k : Nat) (c m : Str) (ps : List Str) (sp : Sp) : Prop where
  ok : ∃ fd, FnOk P w K mg base CX0 k (He.ma K (He.ga K c) m) fd ps sp ∧ Binds K fd ps []
  cl : Cls K (He.ga K c)
  me : Meth K (He.ga K c) m (He.ma K (He.ga K c) m)
/-- a class's making; dvs: what the defaults fill up -/
structure Mr (P : Program) (w : World) (K : PySem.W.Frag) (mg : Str → Option Value) (base : Heap) (k : Nat) (c : Str) (ps : List Str) (dvs : List V) (sp : Sp) : Prop where
  ok : ∃ fd ds, FnOk P w K mg base CX0 k (He.ma K (He.ga K c) "__init__") fd ps sp ∧ Binds K fd ps ds ∧ Vals dvs ds
  mkk : Mk K (He.ga K c) (He.ma K (He.ga K c) "__init__")
  gl : mg c = some (.ref (He.ga K c))
section
variable {X : Cx} {k : Nat} {x c m : Str} {ps : List Str} {sp : Sp} {e : Expr} {es : List Expr} {t : TA} {p pos apos : Pos} {dvs : List V}
theorem pe_fn (F : Fn X.prog X.w X.K X.mg X.base k x ps sp) (hr : Room k X.A) (ha : PA X (e :: es) t) (hg : Gl X x := by rfl) (hdb : (x == ("__debug__" : Str)) = false := by decide)
    (he : starEach (e :: es) X.env = (false, eval e X.env) :: starEach es X.env := by rfl) (hpl : (backTo pos (starEach es X.env)).any (·.1) = false := by rfl) : PE X (.Call (.Name x p) (e :: es) [] pos) (tCall sp [] E0 t) := by
  obtain ⟨fd, G, b⟩ := F.ok
  exact pe_call G hr hg F.gl F.kp b .nil pass0 ha hdb he hpl
theorem pe_mt {o : Expr} {ta : TE} {pl : Sem Bool} (ho : PE X o ta) (F : Mt X.prog X.w X.K X.mg X.base k c m ps sp) (hr : Room k X.A) (ha : PA X (e :: es) t)
    (hst : starEach (e :: es) X.env = (false, eval e X.env) :: starEach es X.env := by rfl) (hpl : (backTo pos (starEach es X.env)).any (·.1) = false := by rfl)
    (ht : eval (.Call (.Attribute o m apos) (e :: es) [] pos) X.env = (do
      let ov ← eval o X.env
      standAt apos.atName
      let (f, first) ← holding [ov] (getMethod ov m pl)
      callWith pos f first (backTo pos (starEach (e :: es) X.env)) (backToKw pos (keywordEach [] X.env))) := by rfl) : PE X (.Call (.Attribute o m apos) (e :: es) [] pos) (tMeth (He.ga X.K c) m sp [] E0 ta t) := by
  obtain ⟨fd, G, b⟩ := F.ok
  exact pe_meth ho F.cl F.me G hr b .nil pass0 ha hst hpl ht
theorem pe_mt0 {o : Expr} {ta : TE} {pl : Sem Bool} (ho : PE X o ta) (F : Mt X.prog X.w X.K X.mg X.base k c m ps sp) (hr : Room k X.A)
    (ht : eval (.Call (.Attribute o m apos) [] [] pos) X.env = (do
      let ov ← eval o X.env
      standAt apos.atName
      let (f, first) ← holding [ov] (getMethod ov m pl)
      callWith pos f first (backTo pos (starEach [] X.env)) (backToKw pos (keywordEach [] X.env))) := by rfl) : PE X (.Call (.Attribute o m apos) [] [] pos) (tMeth (He.ga X.K c) m sp [] E0 ta tNil) := by
  obtain ⟨fd, G, b⟩ := F.ok
  exact pe_meth0 ho F.cl F.me G hr b .nil pass0 ht
theorem pe_mr (F : Mr X.prog X.w X.K X.mg X.base k c ps dvs sp) (hr : Room (k + 1) X.A) (ha : PA X (e :: es) t) (hg : Gl X c := by rfl) (hdb : (c == ("__debug__" : Str)) = false := by decide)
    (he : starEach (e :: es) X.env = (false, eval e X.env) :: starEach es X.env := by rfl) (hpl : (backTo pos (starEach es X.env)).any (·.1) = false := by rfl) : PE X (.Call (.Name c p) (e :: es) [] pos) (tMake (He.ga X.K c) sp dvs E0 t) := by
  obtain ⟨fd, ds, G, b, hd⟩ := F.ok
  exact pe_make F.mkk G hr hg F.gl b hd pass0 ha hdb he hpl
/-- a module's number, a module's text -/
theorem pe_gi {n : Int} (h : ∃ t, X.mg x = some (.int n t)) (hg : Gl X x := by rfl) (hd : (x == ("__debug__" : Str)) = false := by decide) : PE X (.Name x pos) (tC (.int n)) := by
  obtain ⟨t, h⟩ := h
  exact pe_glob hg h ⟨_, rfl⟩ hd
theorem pe_gs {n : Str} (h : ∃ t, X.mg x = some (.str n t)) (hg : Gl X x := by rfl) (hd : (x == ("__debug__" : Str)) = false := by decide) : PE X (.Name x pos) (tC (.str n)) := by
  obtain ⟨t, h⟩ := h
  exact pe_glob hg h ⟨_, rfl⟩ hd
/-- isinstance(e, T) -/
theorem pe_isi {a : Expr} {ta : TE} {T : Str} {n : String} {p2 : Pos} (h1 : X.mg "isinstance" = none) (h2 : X.mg T = none) (hb : bootBuiltins T = some (.type n)) (ha : PE X a ta) (hg : Gl X "isinstance" := by rfl) (hgT : Gl X T := by rfl) (hn : T ≠ "__name__" := by decide)
    (hd : (T == ("__debug__" : Str)) = false := by decide) (he : starEach [a, .Name T p2] X.env = (false, eval a X.env) :: starEach [.Name T p2] X.env := by rfl) (hpl : (backTo pos (starEach [.Name T p2] X.env)).any (·.1) = false := by rfl) :
    PE X (.Call (.Name "isinstance" p) [a, .Name T p2] [] pos) (tCB (rIsi X.K) (tCons ta (tCons (tC (.ty n)) tNil))) :=
  pe_callB call_isi hg h1 boot_isinstance (pa_cons ha (pa_cons (pe_bltn (v := .ty n) hgT h2 hb rfl hn hd) pa_nil) (hs := he)) (by decide) (by decide) he hpl
end
/-! ### readings -/
section
variable {K : PySem.W.Frag} {σ : L2.St} {H : Hp} {ta tb : TE} {x y : V} {b : Bool}
theorem val_isi {t : String} {n : String} (ha : Val ta σ H x) (ht : TyX K H x (.type t)) (h : kitB t n = some b) : Val (tCB (rIsi K) (tCons ta (tCons (tC (.ty n)) tNil))) σ H (.bl b) := fun Q q =>
  ha _ ⟨x, .ty n, _, _, b, rfl, .ty n, ht, kit_ty h, q⟩
theorem isi_int_int (i : Int) (ha : Val ta σ H (.int i)) : Val (tCB (rIsi K) (tCons ta (tCons (tC (.ty "int")) tNil))) σ H (.bl true) := val_isi ha (.base (.int i)) (by decide +kernel)
theorem isi_int_bool (i : Int) (ha : Val ta σ H (.int i)) : Val (tCB (rIsi K) (tCons ta (tCons (tC (.ty "bool")) tNil))) σ H (.bl false) := val_isi ha (.base (.int i)) (by decide +kernel)
theorem isi_str (z : Str) (ha : Val ta σ H (.str z)) : Val (tCB (rIsi K) (tCons ta (tCons (tC (.ty "str")) tNil))) σ H (.bl true) := val_isi ha (.base (.str z)) (by decide +kernel)
theorem isi_tup {a : Addr} {xs : List V} (ha : Val ta σ H (.ref a)) (h : H a = some (.tup xs)) : Val (tCB (rIsi K) (tCons ta (tCons (tC (.ty "tuple")) tNil))) σ H (.bl true) := val_isi ha (.base (.tup h)) (by decide +kernel)
end
section
variable {K : PySem.W.Frag} {σ : L2.St} {H : Hp} {ta tb tc : TE} {x y z : V} {i j k : Int} {b : Bool} {t1 t2 : TS} {c : TT} {D : Ends}
theorem val_andT (ha : Val ta σ H (.bl true)) (hb : Val tb σ H y) : Val (tAndV ta tb) σ H y := fun Q q => ha _ ⟨true, rfl, iteT (hb _ q)⟩
theorem val_andF (ha : Val ta σ H (.bl false)) : Val (tAndV ta tb) σ H (.bl false) := fun Q q => ha _ ⟨false, rfl, iteF q⟩
theorem val_orT (ha : Val ta σ H (.bl true)) : Val (tOrV ta tb) σ H (.bl true) := fun Q q => ha _ ⟨true, rfl, iteT q⟩
theorem val_orF (ha : Val ta σ H (.bl false)) (hb : Val tb σ H y) : Val (tOrV ta tb) σ H y := fun Q q => ha _ ⟨false, rfl, iteF (hb _ q)⟩
theorem val_not (ha : Val ta σ H (.bl b)) : Val (tNotV ta) σ H (.bl (!b)) := fun Q q => ha _ ⟨b, rfl, q⟩
theorem val_rI0 {g : Int → Int → V} (ha : Val ta σ H (.int i)) (hb : Val tb σ H (.int j)) : Val (tOp (rI0 g) ta tb) σ H (g i j) := val_op ha hb fun Q q => ⟨i, j, rfl, rfl, q⟩
theorem val_rI {C : Int → Int → Prop} {g : Int → Int → V} (ha : Val ta σ H (.int i)) (hb : Val tb σ H (.int j)) (hc : C i j) : Val (tOp (rI C g) ta tb) σ H (g i j) := val_op ha hb fun Q q => ⟨i, j, rfl, rfl, hc, q⟩
theorem val_chain {g g' : Int → Int → V} {b1 b2 : Bool} (ha : Val ta σ H (.int i)) (hb : Val tb σ H (.int j)) (hc : Val tc σ H (.int k)) (h1 : g i j = .bl b1) (h2 : g' j k = .bl b2) (hb' : (b1 && b2) = b) : Val (tChain (rI0 g) (rI0 g') ta tb tc) σ H (.bl b) := fun Q q => by
  subst hb'
  refine ha _ (hb _ ⟨i, j, rfl, rfl, ?_⟩)
  cases b1 with
  | true => exact ⟨true, h1, iteT (hc _ ⟨j, k, rfl, rfl, by rw [h2]; exact q⟩)⟩
  | false => exact ⟨false, h1, iteF q⟩
theorem val_to (h : Val ta σ H x) (e : x = y) : Val ta σ H y := e ▸ h
theorem ans_to {b' : Bool} (h : Ans c σ H b) (e : b = b') : Ans c σ H b' := e ▸ h
/-- a test of two numbers -/
theorem ans_rI0 {g : Int → Int → V} (ha : Val ta σ H (.int i)) (hb : Val tb σ H (.int j)) (h : g i j = .bl b) : Ans (tTest (tOp (rI0 g) ta tb)) σ H b := ans_cmp ha hb fun Q q => ⟨i, j, rfl, rfl, by rw [h]; exact q⟩
theorem ans_eqS (ha : Val ta σ H x) (hb : Val tb σ H y) (hs : scal x y = true) (hd : decide (x = y) = b) : Ans (tTest (tOp rEq ta tb)) σ H b := ans_eq ha hb hs hd
theorem ans_neS (ha : Val ta σ H x) (hb : Val tb σ H y) (hs : scal x y = true) (hd : (!decide (x = y)) = b) : Ans (tTest (tOp rNe ta tb)) σ H b := ans_ne ha hb hs hd
theorem ans_isN' (ha : Val ta σ H x) (hd : decide (x = .non) = b) : Ans (tTest (tOp (fun x y H Q => y = .non ∧ Q (.bl (decide (x = .non))) H) ta (tC .non))) σ H b := ans_isN ha hd
theorem ans_notN' (ha : Val ta σ H x) (hd : (!decide (x = .non)) = b) : Ans (tTest (tOp (fun x y H Q => y = .non ∧ Q (.bl (!decide (x = .non))) H) ta (tC .non))) σ H b := ans_notN ha hd
/-- an if by its test -/
theorem st_if {b : Bool} (h : Ans c σ H b) (h1 : b = true → t1 D σ H) (h2 : b = false → t2 D σ H) : tIfS c t1 t2 D σ H := by
  cases b with
  | true => exact st_yes h (h1 rfl)
  | false => exact st_no h (h2 rfl)
theorem val_len_tup {a : Addr} {xs : List V} (ha : Val ta σ H (.ref a)) (h : SqT K H a xs) : Val (tCB (fun xs H Q => ∃ x n, xs = [x] ∧ LenV K x H n ∧ Q (.int n) H) (tCons ta tNil)) σ H (.int (xs.length : Nat)) := fun Q q =>
  ha _ ⟨_, xs.length, rfl, .inr ⟨_, h, rfl⟩, q⟩
theorem val_len_lst {a : Addr} {xs : List V} (ha : Val ta σ H (.ref a)) (h : SqL K H a xs) : Val (tCB (fun xs H Q => ∃ x n, xs = [x] ∧ LenV K x H n ∧ Q (.int n) H) (tCons ta tNil)) σ H (.int (xs.length : Nat)) := fun Q q =>
  ha _ ⟨_, xs.length, rfl, .inl ⟨_, h, rfl⟩, q⟩
/-- a comprehension's turn -/
theorem lc_yes {A B : Hp → Prop} (h : A H) : tYes σ H (fun b H3 => if b = true then A H3 else B H3) := by
  show (if true = true then A H else B H)
  rw [if_pos rfl]
  exact h
theorem lc_ans {b : Bool} {A B : Hp → Prop} (h : Ans c σ H b) (h1 : b = true → A H) (h2 : b = false → B H) : c σ H (fun b H3 => if b = true then A H3 else B H3) := h _ (by
  cases b with
  | true => exact iteT (h1 rfl)
  | false => exact iteF (h2 rfl))
end
/-! ### marks -/
def marks (a c e o q : Bool) : Str := ⟨((if a = true then [97] else []) ++ ((if c = true then [99] else []) ++ ((if e = true then [101] else []) ++ ((if o = true then [111] else []) ++ (if q = true then [113] else []))))).toArray⟩
theorem mark_a : ∀ a c e o q, decide (97 ∈ (marks a c e o q).cps.toList) = a := by decide +kernel
theorem mark_c : ∀ a c e o q, decide (99 ∈ (marks a c e o q).cps.toList) = c := by decide +kernel
theorem mark_e : ∀ a c e o q, decide (101 ∈ (marks a c e o q).cps.toList) = e := by decide +kernel
theorem mark_o : ∀ a c e o q, decide (111 ∈ (marks a c e o q).cps.toList) = o := by decide +kernel
theorem mark_q : ∀ a c e o q, decide (113 ∈ (marks a c e o q).cps.toList) = q := by decide +kernel
theorem s_a : ("a" : Str) = ⟨#[97]⟩ := by decide +kernel
theorem s_c : ("c" : Str) = ⟨#[99]⟩ := by decide +kernel
theorem s_e : ("e" : Str) = ⟨#[101]⟩ := by decide +kernel
theorem s_o : ("o" : Str) = ⟨#[111]⟩ := by decide +kernel
theorem s_q : ("q" : Str) = ⟨#[113]⟩ := by decide +kernel
def five (a c e o q : Bool) : List (Nat × Bool) := [(97, a), (99, c), (101, e), (111, o), (113, q)]
def keptL (l : List (Nat × Bool)) : List Str := (l.filter (·.2)).map fun p => ⟨#[p.1]⟩
theorem join_five : ∀ a c e o q, Txt.join "" (keptL (five a c e o q)) = marks a c e o q := by decide +kernel
theorem sum_five : ∀ a c e o q, ((keptL (five a c e o q)).map (·.length)).sum + (keptL (five a c e o q)).length * ("" : Str).length ≤ 16777216 := by decide +kernel
section
variable {σ : L2.St} {H : Hp} {ta tb : TE} {b : Bool}
abbrev rInSg : R2 := fun x y H Q => ∃ (c : Nat) (z : Str), x = .str ⟨#[c]⟩ ∧ y = .str z ∧ Q (.bl (decide (c ∈ z.cps.toList))) H
abbrev rNiSg : R2 := fun x y H Q => ∃ (c : Nat) (z : Str), x = .str ⟨#[c]⟩ ∧ y = .str z ∧ Q (.bl (!decide (c ∈ z.cps.toList))) H
theorem ans_sg {x : V} {c : Nat} {z : Str} (ha : Val ta σ H x) (hx : x = .str ⟨#[c]⟩) (hb : Val tb σ H (.str z)) (hd : decide (c ∈ z.cps.toList) = b) : Ans (tTest (tOp rInSg ta tb)) σ H b := by
  subst hx
  exact ans_cmp ha hb fun Q q => ⟨c, z, rfl, rfl, by rw [hd]; exact q⟩
theorem ans_nsg {x : V} {c : Nat} {z : Str} (ha : Val ta σ H x) (hx : x = .str ⟨#[c]⟩) (hb : Val tb σ H (.str z)) (hd : (!decide (c ∈ z.cps.toList)) = b) : Ans (tTest (tOp rNiSg ta tb)) σ H b := by
  subst hx
  exact ans_cmp ha hb fun Q q => ⟨c, z, rfl, rfl, by rw [hd]; exact q⟩
theorem val_sg {x : V} {c : Nat} {z : Str} (ha : Val ta σ H x) (hx : x = .str ⟨#[c]⟩) (hb : Val tb σ H (.str z)) (hd : decide (c ∈ z.cps.toList) = b) : Val (tOp rInSg ta tb) σ H (.bl b) := by
  subst hx
  exact val_op ha hb fun Q q => ⟨c, z, rfl, rfl, by rw [hd]; exact q⟩
end
end SW
end
section
set_option maxRecDepth 100000
set_option maxHeartbeats 4000000
/-! bits, rounds, the small tests. -/
namespace SW
open PySem PySem.Spec PyProof.Rows L2
abbrev rLe : R2 := rI0 fun i j => .bl (decide (i ≤ j))
def spIsWhole : Sp := fun vs H Q _ => ∃ i a b : Int, vs = [.int i, .int a, .int b] ∧ a ≤ i ∧ i ≤ b ∧ Q (.bl true) H
def spNeedSize : Sp := fun vs H Q _ => ∃ i : Int, vs = [.int i] ∧ i = 4294967296 ∧ Q .non H
def spNeedNumber : Sp := fun vs H Q _ => ∃ i n : Int, vs = [.int i, .int n] ∧ 0 ≤ i ∧ i < n ∧ Q .non H
def spMoved : Sp := fun vs H Q _ => ∃ (a : Nat) (i n : Int), vs = [.int a, .int i, .int n] ∧ n = 4294967296 ∧ a < 4294967296 ∧ Q (.int ((a + i) % 4294967296)) H
def spFar : Sp := fun vs H Q _ => ∃ (a b : Nat) (n : Int), vs = [.int a, .int b, .int n] ∧ n = 4294967296 ∧ a < 4294967296 ∧ b < 4294967296 ∧ Q (.int (far a b)) H
/-- a whole number from 0 on, as a value -/
abbrev nV (n : Nat) : V := .int n
def spIsData : Sp := fun vs H Q _ => ∃ (a : Addr) (ns : List Nat), vs = [.ref a] ∧ H a = some (.tup (ns.map nV)) ∧ ns.length ≤ 1000 ∧ (∀ n ∈ ns, n < 256) ∧ ∀ H', Same H H' → Q (.bl true) H'
def spIsNum : Sp := fun vs H Q _ => ∃ i n : Int, vs = [.int i, .int n] ∧ Q (.bl (decide (n ≤ i))) H
def spIsNumT : Sp := fun vs H Q _ => ∃ i n : Int, vs = [.int i, .int n] ∧ 0 ≤ i ∧ i < n ∧ Q (.bl true) H
def spFromNought : Sp := fun vs H Q _ => ∃ i n : Int, vs = [.int i, .int n] ∧ 0 ≤ i ∧ i ≤ n ∧ Q (.bl true) H
def spIsWithin : Sp := fun vs H Q _ => ∃ i a b : Int, vs = [.int i, .int a, .int b] ∧ a ≤ i ∧ i ≤ b ∧ Q (.bl true) H
def spNeedTick : Sp := fun vs H Q _ => ∃ i n : Int, vs = [.int i, .int n] ∧ n ≤ i ∧ Q .non H
theorem getElem?_nV {ns : List Nat} {i : Nat} {x : V} (h : (ns.map nV)[i]? = some x) : ∃ n, ns[i]? = some n ∧ x = nV n := by
  rw [List.getElem?_map] at h
  cases e : ns[i]? with
  | none => rw [e] at h; cases h
  | some n => rw [e] at h; exact ⟨n, rfl, (Option.some.inj h).symm⟩
section
variable {P : Program} {w : World} {K : PySem.W.Frag} {mg : Str → Option Value} {base : Heap}
theorem ok_is_whole (S : Says K mg)  : Fn P w K mg base 1 "is_whole" ["thing", "least", "most"] spIsWhole := by
  obtain ⟨fd, F⟩ := S.u_is_whole
  have sc : FnScope ["thing", "least", "most"] ["thing", "least", "most"] (defScope s_is_whole) := ⟨rfl, rfl, rfl, by decide +kernel, rfl, by decide +kernel, by decide +kernel⟩
  refine ⟨⟨fd, F.ok sc (fun vs H Q E h => ?_) (fun cdv A outer s H vs Q E hr h => ⟨_, PSs.nox (pss_one (ps_ret (pe_and (pe_isi S.f_isinstance S.f_int boot_int (pv 0)) (pe_and (pe_not (pe_isi S.f_isinstance S.f_bool boot_bool (pv 0))) (pe_one (pe_chain op_le op_le (pv 1) (pv 0) (pv 2))))))), ?_⟩), F.bindsN (fun _ _ _ _ _ _ us hl => match us, hl with | [_, _, _], _ => rfl)⟩, F.kp, S.g_is_whole⟩
  · obtain ⟨_, _, _, rfl, _⟩ := h
    rfl
  · obtain ⟨i, a, b, rfl, h1, h2, q⟩ := h
    refine st_ret (v := .bl true) ?_ q
    refine val_andT (isi_int_int i (val_var rfl)) (val_andT (val_not (isi_int_bool i (val_var rfl))) ?_)
    exact val_chain (val_var rfl) (val_var rfl) (val_var rfl) rfl rfl (by rw [decide_eq_true h1, decide_eq_true h2]; rfl)
theorem ok_need_size (S : Says K mg)  : Fn P w K mg base 1 "need_size" ["size"] spNeedSize := by
  obtain ⟨fd, F⟩ := S.u_need_size
  have sc : FnScope ["size"] ["size"] (defScope s_need_size) := ⟨rfl, rfl, rfl, by decide +kernel, rfl, by decide +kernel, by decide +kernel⟩
  refine ⟨⟨fd, F.ok sc (fun vs H Q E h => ?_) (fun cdv A outer s H vs Q E hr h => ⟨_, PSs.nox (pss_one (ps_if (PW.pt (pw_or (pt_not (pt_val (pe_isi S.f_isinstance S.f_int boot_int (pv 0)))) (pw_or (pt_val (pe_isi S.f_isinstance S.f_bool boot_bool (pv 0))) (pw_or1 (pt_not (pt_chain op_le op_le (pe_gi S.i_LEAST_SIZE) (pv 0) (pe_gi S.i_MOST_SIZE))))))) (pss_one ps_never) pss_nil)), ?_⟩), F.bindsN (fun _ _ _ _ _ _ us hl => match us, hl with | [_], _ => rfl)⟩, F.kp, S.g_need_size⟩
  · obtain ⟨_, rfl, _⟩ := h
    rfl
  · obtain ⟨i, rfl, rfl, q⟩ := h
    refine st_no (ans_or (ans_not (ans_val (isi_int_int _ (val_var rfl)))) (ans_or (ans_val (isi_int_bool _ (val_var rfl))) (ans_not (b := true) (ans_val ?_)))) q
    exact val_chain val_c (val_var rfl) val_c rfl rfl rfl
theorem ok_need_number (S : Says K mg)  : Fn P w K mg base 1 "need_number" ["number", "size"] spNeedNumber := by
  obtain ⟨fd, F⟩ := S.u_need_number
  have sc : FnScope ["number", "size"] ["number", "size"] (defScope s_need_number) := ⟨rfl, rfl, rfl, by decide +kernel, rfl, by decide +kernel, by decide +kernel⟩
  refine ⟨⟨fd, F.ok sc (fun vs H Q E h => ?_) (fun cdv A outer s H vs Q E hr h => ⟨_, PSs.nox (pss_one (ps_if (PW.pt (pw_or (pt_not (pt_val (pe_isi S.f_isinstance S.f_int boot_int (pv 0)))) (pw_or (pt_val (pe_isi S.f_isinstance S.f_bool boot_bool (pv 0))) (pw_or1 (pt_not (pt_chain op_le op_lt pe_int (pv 0) (pv 1))))))) (pss_one ps_never) pss_nil)), ?_⟩), F.bindsN (fun _ _ _ _ _ _ us hl => match us, hl with | [_, _], _ => rfl)⟩, F.kp, S.g_need_number⟩
  · obtain ⟨_, _, rfl, _⟩ := h
    rfl
  · obtain ⟨i, n, rfl, h1, h2, q⟩ := h
    refine st_no (ans_or (ans_not (ans_val (isi_int_int _ (val_var rfl)))) (ans_or (ans_val (isi_int_bool _ (val_var rfl))) (ans_not (b := true) (ans_val ?_)))) q
    exact val_chain val_c (val_var rfl) (val_var rfl) rfl rfl (by rw [decide_eq_true h1, decide_eq_true h2]; rfl)
theorem ok_moved (S : Says K mg) (F_need_size : Fn P w K mg base 1 "need_size" ["size"] spNeedSize) (F_need_number : Fn P w K mg base 1 "need_number" ["number", "size"] spNeedNumber) : Fn P w K mg base 2 "moved" ["number", "by", "size"] spMoved := by
  obtain ⟨fd, F⟩ := S.u_moved
  have sc : FnScope ["number", "by", "size"] ["number", "by", "size"] (defScope s_moved) := ⟨rfl, rfl, rfl, by decide +kernel, rfl, by decide +kernel, by decide +kernel⟩
  refine ⟨⟨fd, F.ok sc (fun vs H Q E h => ?_) (fun cdv A outer s H vs Q E hr h => ⟨_, PSs.nox (pss_cons (ps_expr (pe_fn F_need_size (hr.mono (by decide)) (pa_cons (pv 2) pa_nil)))
      (pss_cons (ps_expr (pe_fn F_need_number (hr.mono (by decide)) (pa_cons (pv 0) (pa_cons (pv 2) pa_nil))))
      (pss_one (ps_ret (pe_op op_modN (pe_op op_add (pv 0) (pv 1)) (pv 2)))))), ?_⟩), F.bindsN (fun _ _ _ _ _ _ us hl => match us, hl with | [_, _, _], _ => rfl)⟩, F.kp, S.g_moved⟩
  · obtain ⟨_, _, _, rfl, _⟩ := h
    rfl
  · obtain ⟨a, i, n, rfl, rfl, h1, q⟩ := h
    refine ⟨_, rfl, _, rfl, rfl, ?_⟩
    refine ⟨_, rfl, _, rfl, _, _, rfl, by omega, by omega, ?_⟩
    dsimp only
    refine st_ret (val_rI (val_rI0 (val_var rfl) (val_var rfl)) (val_var rfl) (by decide)) ?_
    rw [Int.fmod_eq_emod_of_nonneg _ (by decide)]
    exact q
theorem ok_far (S : Says K mg) (F_need_size : Fn P w K mg base 1 "need_size" ["size"] spNeedSize) (F_need_number : Fn P w K mg base 1 "need_number" ["number", "size"] spNeedNumber) : Fn P w K mg base 2 "far" ["one", "other", "size"] spFar := by
  obtain ⟨fd, F⟩ := S.u_far
  have sc : FnScope ["one", "other", "size"] ["one", "other", "size"] (defScope s_far) := ⟨rfl, rfl, rfl, by decide +kernel, rfl, by decide +kernel, by decide +kernel⟩
  refine ⟨⟨fd, F.ok sc (fun vs H Q E h => ?_) (fun cdv A outer s H vs Q E hr h => ⟨_, PSs.nox (pss_cons (ps_expr (pe_fn F_need_size (hr.mono (by decide)) (pa_cons (pv 2) pa_nil)))
      (pss_cons (ps_expr (pe_fn F_need_number (hr.mono (by decide)) (pa_cons (pv 0) (pa_cons (pv 2) pa_nil))))
      (pss_cons (ps_expr (pe_fn F_need_number (hr.mono (by decide)) (pa_cons (pv 1) (pa_cons (pv 2) pa_nil))))
      (pss_one (ps_ret (pe_op op_modN (pe_op op_sub (pv 1) (pv 0)) (pv 2))))))), ?_⟩), F.bindsN (fun _ _ _ _ _ _ us hl => match us, hl with | [_, _, _], _ => rfl)⟩, F.kp, S.g_far⟩
  · obtain ⟨_, _, _, rfl, _⟩ := h
    rfl
  · obtain ⟨a, b, n, rfl, rfl, h1, h2, q⟩ := h
    refine ⟨_, rfl, _, rfl, rfl, ?_⟩
    refine ⟨_, rfl, _, rfl, _, _, rfl, by omega, by omega, ?_⟩
    refine ⟨_, rfl, _, rfl, _, _, rfl, by omega, by omega, ?_⟩
    dsimp only
    refine st_ret (val_rI (val_rI0 (val_var rfl) (val_var rfl)) (val_var rfl) (by decide)) ?_
    rw [Int.fmod_eq_emod_of_nonneg _ (by decide)]
    have e : ((b : Int) - a) % 4294967296 = (far a b : Nat) := by
      unfold far
      rw [M_eq]
      omega
    rw [e]
    exact q
theorem ok_is_number_givers (S : Says K mg)  : Fn P w K mg base 1 "is_number_givers" ["thing", "least"] spIsNum := by
  obtain ⟨fd, F⟩ := S.u_is_number_givers
  have sc : FnScope ["thing", "least"] ["thing", "least"] (defScope s_is_number_givers) := ⟨rfl, rfl, rfl, by decide +kernel, rfl, by decide +kernel, by decide +kernel⟩
  refine ⟨⟨fd, F.ok sc (fun vs H Q E h => ?_) (fun cdv A outer s H vs Q E hr h => ⟨_, PSs.nox (pss_one (ps_ret (pe_and (pe_isi S.f_isinstance S.f_int boot_int (pv 0)) (pe_and (pe_not (pe_isi S.f_isinstance S.f_bool boot_bool (pv 0))) (pe_one (pe_cmpR op_ge (pv 0) (pv 1) (nomark _))))))), ?_⟩), F.bindsN (fun _ _ _ _ _ _ us hl => match us, hl with | [_, _], _ => rfl)⟩, F.kp, S.g_is_number_givers⟩
  · obtain ⟨_, _, rfl, _⟩ := h
    rfl
  · obtain ⟨i, n, rfl, q⟩ := h
    refine st_ret ?_ q
    exact val_andT (isi_int_int i (val_var rfl)) (val_andT (val_not (isi_int_bool i (val_var rfl))) (val_rI0 (val_var rfl) (val_var rfl)))
theorem ok_is_number_talks (S : Says K mg)  : Fn P w K mg base 1 "is_number_talks" ["thing", "beyond"] spIsNumT := by
  obtain ⟨fd, F⟩ := S.u_is_number_talks
  have sc : FnScope ["thing", "beyond"] ["thing", "beyond"] (defScope s_is_number_talks) := ⟨rfl, rfl, rfl, by decide +kernel, rfl, by decide +kernel, by decide +kernel⟩
  refine ⟨⟨fd, F.ok sc (fun vs H Q E h => ?_) (fun cdv A outer s H vs Q E hr h => ⟨_, PSs.nox (pss_one (ps_ret (pe_and (pe_isi S.f_isinstance S.f_int boot_int (pv 0)) (pe_and (pe_not (pe_isi S.f_isinstance S.f_bool boot_bool (pv 0))) (pe_one (pe_chain op_le op_lt pe_int (pv 0) (pv 1))))))), ?_⟩), F.bindsN (fun _ _ _ _ _ _ us hl => match us, hl with | [_, _], _ => rfl)⟩, F.kp, S.g_is_number_talks⟩
  · obtain ⟨_, _, rfl, _⟩ := h
    rfl
  · obtain ⟨i, n, rfl, h1, h2, q⟩ := h
    refine st_ret (v := .bl true) ?_ q
    refine val_andT (isi_int_int i (val_var rfl)) (val_andT (val_not (isi_int_bool i (val_var rfl))) ?_)
    exact val_chain val_c (val_var rfl) (val_var rfl) rfl rfl (by rw [decide_eq_true h1, decide_eq_true h2]; rfl)
theorem ok_is_from_nought (S : Says K mg)  : Fn P w K mg base 1 "is_from_nought" ["thing", "most"] spFromNought := by
  obtain ⟨fd, F⟩ := S.u_is_from_nought
  have sc : FnScope ["thing", "most"] ["thing", "most"] (defScope s_is_from_nought) := ⟨rfl, rfl, rfl, by decide +kernel, rfl, by decide +kernel, by decide +kernel⟩
  refine ⟨⟨fd, F.ok sc (fun vs H Q E h => ?_) (fun cdv A outer s H vs Q E hr h => ⟨_, PSs.nox (pss_one (ps_ret (pe_and (pe_isi S.f_isinstance S.f_int boot_int (pv 0)) (pe_and (pe_not (pe_isi S.f_isinstance S.f_bool boot_bool (pv 0))) (pe_one (pe_chain op_le op_le pe_int (pv 0) (pv 1))))))), ?_⟩), F.bindsN (fun _ _ _ _ _ _ us hl => match us, hl with | [_, _], _ => rfl)⟩, F.kp, S.g_is_from_nought⟩
  · obtain ⟨_, _, rfl, _⟩ := h
    rfl
  · obtain ⟨i, n, rfl, h1, h2, q⟩ := h
    refine st_ret (v := .bl true) ?_ q
    refine val_andT (isi_int_int i (val_var rfl)) (val_andT (val_not (isi_int_bool i (val_var rfl))) ?_)
    exact val_chain val_c (val_var rfl) (val_var rfl) rfl rfl (by rw [decide_eq_true h1, decide_eq_true h2]; rfl)
theorem ok_is_within (S : Says K mg)  : Fn P w K mg base 1 "is_within" ["thing", "least", "most"] spIsWithin := by
  obtain ⟨fd, F⟩ := S.u_is_within
  have sc : FnScope ["thing", "least", "most"] ["thing", "least", "most"] (defScope s_is_within) := ⟨rfl, rfl, rfl, by decide +kernel, rfl, by decide +kernel, by decide +kernel⟩
  refine ⟨⟨fd, F.ok sc (fun vs H Q E h => ?_) (fun cdv A outer s H vs Q E hr h => ⟨_, PSs.nox (pss_one (ps_ret (pe_and (pe_isi S.f_isinstance S.f_int boot_int (pv 0)) (pe_and (pe_not (pe_isi S.f_isinstance S.f_bool boot_bool (pv 0))) (pe_one (pe_chain op_le op_le (pv 1) (pv 0) (pv 2))))))), ?_⟩), F.bindsN (fun _ _ _ _ _ _ us hl => match us, hl with | [_, _, _], _ => rfl)⟩, F.kp, S.g_is_within⟩
  · obtain ⟨_, _, _, rfl, _⟩ := h
    rfl
  · obtain ⟨i, a, b, rfl, h1, h2, q⟩ := h
    refine st_ret (v := .bl true) ?_ q
    refine val_andT (isi_int_int i (val_var rfl)) (val_andT (val_not (isi_int_bool i (val_var rfl))) ?_)
    exact val_chain (val_var rfl) (val_var rfl) (val_var rfl) rfl rfl (by rw [decide_eq_true h1, decide_eq_true h2]; rfl)
theorem ok_need_tick (S : Says K mg)  : Fn P w K mg base 1 "need_tick" ["tick", "last"] spNeedTick := by
  obtain ⟨fd, F⟩ := S.u_need_tick
  have sc : FnScope ["tick", "last"] ["tick", "last"] (defScope s_need_tick) := ⟨rfl, rfl, rfl, by decide +kernel, rfl, by decide +kernel, by decide +kernel⟩
  refine ⟨⟨fd, F.ok sc (fun vs H Q E h => ?_) (fun cdv A outer s H vs Q E hr h => ⟨_, PSs.nox (pss_one (ps_if (PW.pt (pw_or (pt_not (pt_val (pe_isi S.f_isinstance S.f_int boot_int (pv 0)))) (pw_or (pt_val (pe_isi S.f_isinstance S.f_bool boot_bool (pv 0))) (pw_or1 (pt_cmpR op_lt (pv 0) (pv 1) (nomark _)))))) (pss_one ps_never) pss_nil)), ?_⟩), F.bindsN (fun _ _ _ _ _ _ us hl => match us, hl with | [_, _], _ => rfl)⟩, F.kp, S.g_need_tick⟩
  · obtain ⟨_, _, rfl, _⟩ := h
    rfl
  · obtain ⟨i, n, rfl, h1, q⟩ := h
    refine st_no (ans_or (ans_not (ans_val (isi_int_int _ (val_var rfl)))) (ans_or (ans_val (isi_int_bool _ (val_var rfl))) ?_)) q
    exact ans_rI0 (val_var rfl) (val_var rfl) (by rw [decide_eq_false (by omega)])
theorem ok_is_data (S : Says K mg) (F_is_whole : Fn P w K mg base 1 "is_whole" ["thing", "least", "most"] spIsWhole) : Fn P w K mg base 2 "is_data" ["thing"] spIsData := by
  obtain ⟨fd, F⟩ := S.u_is_data
  have sc : FnScope ["thing", "byte"] ["thing"] (defScope s_is_data) := ⟨rfl, rfl, rfl, by decide +kernel, rfl, by decide +kernel, by decide +kernel⟩
  refine ⟨⟨fd, F.ok sc (fun vs H Q E h => ?_) (fun cdv A outer s H vs Q E hr h => ⟨_, PSs.nox (pss_cons (ps_if (PW.pt (pw_or (pt_not (pt_val (pe_isi S.f_isinstance S.f_tuple boot_tuple (pv 0)))) (pw_or1 (pt_cmpR op_gt (pe_callB call_len rfl S.f_len boot_len (pa_cons (pv 0) pa_nil)) (pe_gi S.i_MOST_DATA_bits) (nomark _))))) (pss_one (ps_ret pe_bl)) pss_nil)
      (pss_one (ps_ret (pe_callB (cr_all rfl) rfl S.f_all boot_all (pa_cons (pe_lc (own := [("byte", 1)]) (g := gName 1) rfl sc.nd (pi_tup (pv 0)) (blkOk_by (own := [("byte", 1)]) (N := ["thing", "byte"]) (sc := defScope s_is_data) (by decide +kernel)) (fun _ _ _ _ _ => pg_name (i := 1) sc.nd rfl (Or.inl rfl)) (fun _ _ _ _ _ => pts_nil) (fun _ _ _ _ _ => (pe_fn F_is_whole (hr.mono (by decide)) (pa_cons (pv 1) (pa_cons pe_int (pa_cons (pe_gi S.i_MOST_BYTE) pa_nil)))))) pa_nil))))), ?_⟩), F.bindsN (fun _ _ _ _ _ _ us hl => match us, hl with | [_], _ => rfl)⟩, F.kp, S.g_is_data⟩
  · obtain ⟨_, _, rfl, _⟩ := h
    rfl
  · obtain ⟨a, ns, rfl, h1, h2, h3, q⟩ := h
    refine st_no (ans_or (ans_not (ans_val (isi_tup (val_var rfl) h1))) (ans_rI0 (val_len_tup (val_var rfl) (SqT.of h1)) val_c ?_)) ?_
    · rw [decide_eq_false]
      rw [List.length_map]
      omega
    · refine ⟨_, rfl, a, rfl, ⟨_, SqT.of h1⟩, fun D hD => ?_⟩
      have nD : a ≠ D := ne_of_none h1 hD
      refine lc_tup (K := K) (a := a) (xs := ns.map nV) (fun i H' => Same H H' ∧ H' D = some (.lst ((List.replicate i true).map V.bl))) ⟨fun b o e => by rw [upd_ne (ne_of_none e hD)]; exact e, upd_same⟩ (fun i H' _ p => SqT.of (p.1 _ _ h1)) ?_ ?_
      · rintro i x H' hx ⟨p1, p2⟩
        obtain ⟨n, hn, rfl⟩ := getElem?_nV hx
        have hn' := h3 n (List.mem_of_getElem? hn)
        have hi : i < ns.length := (List.getElem?_eq_some_iff.mp hn).1
        refine ⟨rfl, lc_yes ?_⟩
        refine ⟨_, rfl, (n : Int), 0, 255, rfl, by omega, by omega, ?_⟩
        refine ⟨_, p2, by rw [List.length_map, List.length_replicate, sizeLine_eq]; omega, fun b o e => ?_, ?_⟩
        · rw [upd_ne (ne_of_none e hD)]; exact p1 b o e
        · rw [upd_same]
          rw [List.replicate_succ', List.map_append]
          rfl
      · rintro H' ⟨p1, p2⟩
        refine ⟨D, List.replicate (ns.map nV).length true, rfl, SqL.of p2, ?_⟩
        have e : (List.replicate (ns.map nV).length true).all id = true := by
          rw [List.all_eq_true]
          intro b hb
          rw [(List.mem_replicate.mp hb).2]
          rfl
        rw [e]
        exact q H' p1
end
end SW
end
section
set_option maxRecDepth 100000
set_option maxHeartbeats 4000000
namespace SW
open PySem PySem.Spec PyProof.Rows L2
def spAreMarks : Sp := fun vs H Q _ => ∃ a c e o q : Bool, vs = [.str (marks a c e o q)] ∧ ∀ H', Same H H' → Q (.bl true) H'
theorem five_sign (a c e o q : Bool) (i : Nat) (hi : i < 5) : ∃ m b, (five a c e o q)[i]? = some (m, b) ∧ ("aceoq" : Str).cps[i]? = some m ∧ decide (m ∈ (marks a c e o q).cps.toList) = b := by
  match i, hi with
  | 0, _ => exact ⟨97, a, rfl, by decide +kernel, mark_a a c e o q⟩
  | 1, _ => exact ⟨99, c, rfl, by decide +kernel, mark_c a c e o q⟩
  | 2, _ => exact ⟨101, e, rfl, by decide +kernel, mark_e a c e o q⟩
  | 3, _ => exact ⟨111, o, rfl, by decide +kernel, mark_o a c e o q⟩
  | 4, _ => exact ⟨113, q, rfl, by decide +kernel, mark_q a c e o q⟩
section
variable {P : Program} {w : World} {K : PySem.W.Frag} {mg : Str → Option Value} {base : Heap}
theorem ok_are_marks (S : Says K mg)  : Fn P w K mg base 1 "are_marks" ["thing"] spAreMarks := by
  obtain ⟨fd, F⟩ := S.u_are_marks
  have sc : FnScope ["thing", "letter"] ["thing"] (defScope s_are_marks) := ⟨rfl, rfl, rfl, by decide +kernel, rfl, by decide +kernel, by decide +kernel⟩
  refine ⟨⟨fd, F.ok sc (fun vs H Q E h => ?_) (fun cdv A outer s H vs Q E hr h => ⟨_, PSs.nox (pss_cons (ps_if (pt_not (pt_val (pe_isi S.f_isinstance S.f_str boot_str (pv 0)))) (pss_one (ps_ret pe_bl)) pss_nil)
      (pss_one (ps_ret (pe_cmpR op_eq (pv 0) (pe_join pe_str (pe_lc (own := [("letter", 1)]) (g := gName 1) rfl sc.nd (pi_str (pe_gs S.s_LETTERS)) (blkOk_by (own := [("letter", 1)]) (N := ["thing", "letter"]) (sc := defScope s_are_marks) (by decide +kernel)) (fun _ _ _ _ _ => pg_name (i := 1) sc.nd rfl (Or.inl rfl)) (fun _ _ _ _ _ => pts_one (pt_cmpR op_in_sign (pv 1) (pv 0) rfl)) (fun _ _ _ _ _ => (pv 1)))) (nomark _))))), ?_⟩), F.bindsN (fun _ _ _ _ _ _ us hl => match us, hl with | [_], _ => rfl)⟩, F.kp, S.g_are_marks⟩
  · obtain ⟨_, _, _, _, _, rfl, _⟩ := h
    rfl
  · obtain ⟨a, c, e, o, q, rfl, k⟩ := h
    refine st_no (ans_not (ans_val (isi_str _ (val_var rfl)))) ?_
    dsimp only
    refine ⟨_, rfl, ⟨_, rfl⟩, _, rfl, fun D hD => ?_⟩
    refine lc_it walk_str (fun i H' => Same H H' ∧ H' D = some (.lst ((keptL ((five a c e o q).take i)).map V.str))) ⟨fun b o e => by rw [upd_ne (ne_of_none e hD)]; exact e, upd_same⟩ (fun _ _ _ _ => trivial) ?_ ?_
    · rintro i x H1 H2 hi ⟨p1, p2⟩ ⟨rfl, m, hm, rfl⟩
      have hi : i < 5 := hi
      obtain ⟨m', b, f1, f2, f3⟩ := five_sign a c e o q i hi
      rw [f2] at hm
      cases hm
      refine ⟨rfl, lc_ans (ans_sg (val_var rfl) rfl (val_var rfl) f3) (fun hb => ?_) (fun hb => ?_)⟩
      · refine ⟨_, rfl, _, p2, ?_, fun b o e => ?_, ?_⟩
        · have h1 : (keptL ((five a c e o q).take i)).length ≤ 5 := by
            unfold keptL
            rw [List.length_map]
            refine Nat.le_trans (List.length_filter_le _ _) ?_
            rw [List.length_take]
            exact Nat.min_le_right _ _
          rw [List.length_map, sizeLine_eq]
          omega
        · rw [upd_ne (ne_of_none e hD)]; exact p1 b o e
        · rw [upd_same, List.take_add_one, f1]
          unfold keptL
          simp [hb]
      · refine ⟨p1, ?_⟩
        rw [p2, List.take_add_one, f1]
        unfold keptL
        simp [hb]
    · rintro H' ⟨p1, p2⟩
      have h5 : (five a c e o q).take ("aceoq" : Str).cps.size = five a c e o q := rfl
      rw [h5] at p2
      refine ⟨"", D, keptL (five a c e o q), rfl, rfl, .inl (SqL.of p2), sum_five a c e o q, ?_⟩
      rw [join_five]
      refine ⟨rfl, ?_⟩
      rw [decide_eq_true rfl]
      exact k H' p1
end
end SW
end
section
set_option maxRecDepth 100000
set_option maxHeartbeats 4000000
/-! How the objects stand. -/
namespace SW
open PySem PySem.Spec PyProof.Rows L2
def optV : Option Nat → V
  | none => .non
  | some n => .int n
def endS : Ending → Str
  | .no => ""
  | .cut => "cut"
  | .gone => "gone"
def It.v : It → V
  | .o => .str "o"
  | .e => .str "e"
  | .b n => .int n
def ObjAt (C : Addr) (H : Hp) (a : Addr) (fs : List (Str × V)) : Prop := ∃ dx, H a = some (.ins C dx fs)
/-- what stood and is not named stands -/
def Fr (F : List Addr) (H H' : Hp) : Prop := ∀ b o, H b = some o → b ∉ F → H' b = some o
theorem Fr.refl (F : List Addr) (H : Hp) : Fr F H H := fun _ _ e _ => e
theorem Fr.trans {F : List Addr} {H H1 H2 : Hp} (a : Fr F H H1) (b : Fr F H1 H2) : Fr F H H2 := fun c o e n => b c o (a c o e n) n
theorem Fr.mono {F F' : List Addr} {H H1 : Hp} (a : Fr F H H1) (h : ∀ b ∈ F, b ∈ F') : Fr F' H H1 := fun c o e n => a c o e fun q => n (h c q)
theorem Fr.same {F : List Addr} {H H1 : Hp} (a : Same H H1) : Fr F H H1 := fun c o e _ => a c o e
theorem Fr.up {H : Hp} {a : Addr} {o : HO} : Fr [a] H (upd H a o) := fun c u e n => by rw [upd_ne (fun q => n (by simp [q]))]; exact e
theorem Fr.new {F : List Addr} {H : Hp} {p : Addr} {o : HO} (h : H p = none) : Fr F H (upd H p o) := fun c u e _ => by rw [upd_ne (ne_of_none e h)]; exact e
theorem Same.new {H : Hp} {p : Addr} {o : HO} (h : H p = none) : Same H (upd H p o) := fun c u e => by rw [upd_ne (ne_of_none e h)]; exact e
/-- fresh behind is fresh ahead, or named -/
theorem Fr.free {F : List Addr} {H H' : Hp} (f : Fr F H H') {p : Addr} (h : H' p = none) : H p = none ∨ p ∈ F := by
  cases e : H p with
  | none => exact .inl rfl
  | some o =>
    by_cases c : p ∈ F
    · exact .inr c
    · have := f p o e c
      rw [this] at h
      cases h

def gf (g : Gv) (lk : Addr) : List (Str × V) := [("base", .int g.base), ("most", .int 32), ("first_wait", .int 4), ("wait", .int g.wait), ("kept", .ref lk), ("sent", .int g.sent), ("reach", .int g.reach), ("pace", .int g.pace), ("since", optV g.since), ("tried", .int g.tried), ("passed", .int g.passed), ("finished", .bl g.fin), ("now", .int g.now)]
def tf (t : Tk) (d u : Addr) : List (Str × V) := [("wanted", .int t.wanted), ("whole_room", .int 128), ("ahead", .ref d), ("unread", .ref u), ("over", .bl t.over)]
def sf (s : Sg) (u : Addr) : List (Str × V) := [("source", .int s.src), ("target", .int s.tgt), ("marks", .str (marks s.a s.c s.e s.o s.q)), ("number", .int s.number), ("answer", .int s.answer), ("room", .int s.room), ("data", .ref u)]
def kf (tl : Tl) (g : Addr) (tk : V) : List (Str × V) := [("here", .int tl.here), ("there", .int tl.there), ("begun_with", .int tl.first), ("giver", .ref g), ("taker", tk), ("other_first", optV tl.other), ("last_tick", .int tl.last), ("ending", .str (endS tl.ending)), ("finished", .bl tl.fin), ("rested", optV tl.rested)]
section
variable {g : Gv} {t : Tk} {s : Sg} {tl : Tl} {lk d u ga_ : Addr} {tk : V}
theorem gf_base : (gf g lk).lookup ("base" : Str) = some (.int g.base : V) := by kernel_rfl
theorem gp_base (x : Nat) : putF "base" (.int (x : Int)) (gf g lk) = gf { g with base := x } lk := by kernel_rfl
theorem gf_most : (gf g lk).lookup ("most" : Str) = some (.int 32 : V) := by kernel_rfl
theorem gf_first_wait : (gf g lk).lookup ("first_wait" : Str) = some (.int 4 : V) := by kernel_rfl
theorem gf_wait : (gf g lk).lookup ("wait" : Str) = some (.int g.wait : V) := by kernel_rfl
theorem gp_wait (x : Nat) : putF "wait" (.int (x : Int)) (gf g lk) = gf { g with wait := x } lk := by kernel_rfl
theorem gf_kept : (gf g lk).lookup ("kept" : Str) = some (.ref lk : V) := by kernel_rfl
theorem gp_kept (p : Addr) : putF "kept" (.ref p) (gf g lk) = gf g p := by kernel_rfl
theorem gf_sent : (gf g lk).lookup ("sent" : Str) = some (.int g.sent : V) := by kernel_rfl
theorem gp_sent (x : Nat) : putF "sent" (.int (x : Int)) (gf g lk) = gf { g with sent := x } lk := by kernel_rfl
theorem gf_reach : (gf g lk).lookup ("reach" : Str) = some (.int g.reach : V) := by kernel_rfl
theorem gp_reach (x : Nat) : putF "reach" (.int (x : Int)) (gf g lk) = gf { g with reach := x } lk := by kernel_rfl
theorem gf_pace : (gf g lk).lookup ("pace" : Str) = some (.int g.pace : V) := by kernel_rfl
theorem gp_pace (x : Nat) : putF "pace" (.int (x : Int)) (gf g lk) = gf { g with pace := x } lk := by kernel_rfl
theorem gf_since : (gf g lk).lookup ("since" : Str) = some (optV g.since : V) := by kernel_rfl
theorem gp_since (x : Option Nat) : putF "since" (optV x) (gf g lk) = gf { g with since := x } lk := by kernel_rfl
theorem gf_tried : (gf g lk).lookup ("tried" : Str) = some (.int g.tried : V) := by kernel_rfl
theorem gp_tried (x : Nat) : putF "tried" (.int (x : Int)) (gf g lk) = gf { g with tried := x } lk := by kernel_rfl
theorem gf_passed : (gf g lk).lookup ("passed" : Str) = some (.int g.passed : V) := by kernel_rfl
theorem gp_passed (x : Nat) : putF "passed" (.int (x : Int)) (gf g lk) = gf { g with passed := x } lk := by kernel_rfl
theorem gf_finished : (gf g lk).lookup ("finished" : Str) = some (.bl g.fin : V) := by kernel_rfl
theorem gp_finished (x : Bool) : putF "finished" (.bl x) (gf g lk) = gf { g with fin := x } lk := by kernel_rfl
theorem gf_now : (gf g lk).lookup ("now" : Str) = some (.int g.now : V) := by kernel_rfl
theorem gp_now (x : Nat) : putF "now" (.int (x : Int)) (gf g lk) = gf { g with now := x } lk := by kernel_rfl
theorem tf_wanted : (tf t d u).lookup ("wanted" : Str) = some (.int t.wanted : V) := by kernel_rfl
theorem tp_wanted (x : Nat) : putF "wanted" (.int (x : Int)) (tf t d u) = tf { t with wanted := x } d u := by kernel_rfl
theorem tf_whole_room : (tf t d u).lookup ("whole_room" : Str) = some (.int 128 : V) := by kernel_rfl
theorem tf_ahead : (tf t d u).lookup ("ahead" : Str) = some (.ref d : V) := by kernel_rfl
theorem tp_ahead (p : Addr) : putF "ahead" (.ref p) (tf t d u) = tf t p u := by kernel_rfl
theorem tf_unread : (tf t d u).lookup ("unread" : Str) = some (.ref u : V) := by kernel_rfl
theorem tp_unread (p : Addr) : putF "unread" (.ref p) (tf t d u) = tf t d p := by kernel_rfl
theorem tf_over : (tf t d u).lookup ("over" : Str) = some (.bl t.over : V) := by kernel_rfl
theorem tp_over (x : Bool) : putF "over" (.bl x) (tf t d u) = tf { t with over := x } d u := by kernel_rfl
theorem sf_source : (sf s u).lookup ("source" : Str) = some (.int s.src : V) := by kernel_rfl
theorem sf_target : (sf s u).lookup ("target" : Str) = some (.int s.tgt : V) := by kernel_rfl
theorem sf_marks : (sf s u).lookup ("marks" : Str) = some (.str (marks s.a s.c s.e s.o s.q) : V) := by kernel_rfl
theorem sf_number : (sf s u).lookup ("number" : Str) = some (.int s.number : V) := by kernel_rfl
theorem sf_answer : (sf s u).lookup ("answer" : Str) = some (.int s.answer : V) := by kernel_rfl
theorem sf_room : (sf s u).lookup ("room" : Str) = some (.int s.room : V) := by kernel_rfl
theorem sf_data : (sf s u).lookup ("data" : Str) = some (.ref u : V) := by kernel_rfl
theorem kf_here : (kf tl ga_ tk).lookup ("here" : Str) = some (.int tl.here : V) := by kernel_rfl
theorem kf_there : (kf tl ga_ tk).lookup ("there" : Str) = some (.int tl.there : V) := by kernel_rfl
theorem kf_begun_with : (kf tl ga_ tk).lookup ("begun_with" : Str) = some (.int tl.first : V) := by kernel_rfl
theorem kf_giver : (kf tl ga_ tk).lookup ("giver" : Str) = some (.ref ga_ : V) := by kernel_rfl
theorem kf_taker : (kf tl ga_ tk).lookup ("taker" : Str) = some (tk : V) := by kernel_rfl
theorem kp_taker (x : V) : putF "taker" x (kf tl ga_ tk) = kf tl ga_ x := by kernel_rfl
theorem kf_other_first : (kf tl ga_ tk).lookup ("other_first" : Str) = some (optV tl.other : V) := by kernel_rfl
theorem kp_other_first (x : Option Nat) : putF "other_first" (optV x) (kf tl ga_ tk) = kf { tl with other := x } ga_ tk := by kernel_rfl
theorem kf_last_tick : (kf tl ga_ tk).lookup ("last_tick" : Str) = some (.int tl.last : V) := by kernel_rfl
theorem kp_last_tick (x : Nat) : putF "last_tick" (.int (x : Int)) (kf tl ga_ tk) = kf { tl with last := x } ga_ tk := by kernel_rfl
theorem kf_ending : (kf tl ga_ tk).lookup ("ending" : Str) = some (.str (endS tl.ending) : V) := by kernel_rfl
theorem kp_ending (x : Ending) : putF "ending" (.str (endS x)) (kf tl ga_ tk) = kf { tl with ending := x } ga_ tk := by kernel_rfl
theorem kf_finished : (kf tl ga_ tk).lookup ("finished" : Str) = some (.bl tl.fin : V) := by kernel_rfl
theorem kp_finished (x : Bool) : putF "finished" (.bl x) (kf tl ga_ tk) = kf { tl with fin := x } ga_ tk := by kernel_rfl
theorem kf_rested : (kf tl ga_ tk).lookup ("rested" : Str) = some (optV tl.rested : V) := by kernel_rfl
theorem kp_rested (x : Option Nat) : putF "rested" (optV x) (kf tl ga_ tk) = kf { tl with rested := x } ga_ tk := by kernel_rfl
theorem gf_few : (gf g lk).length < 1000 := by show 13 < 1000; decide
theorem tf_few : (tf t d u).length < 1000 := by show 5 < 1000; decide
theorem kf_few : (kf tl ga_ tk).length < 1000 := by show 10 < 1000; decide
end
section
variable {K : PySem.W.Frag} {σ : L2.St} {H : Hp} {ta tv : TE} {t tr : TA} {C a : Addr} {fs fs' : List (Str × V)} {f m : Str} {v y : V} {vs : List V} {D : Ends} {sp : Sp} {Q : VK}
/-- a field -/
theorem val_obj (ha : Val ta σ H (.ref a)) (h : ObjAt C H a fs) (c : Cls K C) (n : NoAttr K C f) (l : fs.lookup f = some v) : Val (tFld K ta f) σ H v := by
  obtain ⟨dx, h⟩ := h
  exact val_fld ha h c n l
def ArgV (t : TA) (σ : L2.St) (H : Hp) (vs : List V) : Prop := ∀ Q : List V → Hp → Prop, Q vs H → t σ H Q
theorem arg_nil : ArgV tNil σ H [] := fun _ q => q
theorem arg_cons (h : Val ta σ H v) (r : ArgV tr σ H vs) : ArgV (tCons ta tr) σ H (v :: vs) := fun _ q => h _ (r _ q)
/-- a method's call -/
theorem ex_mt (ha : Val ta σ H (.ref a)) (h : ObjAt C H a fs) (hn : fs.lookup m = none) (hv : ArgV t σ H vs) (q : sp (.ref a :: (vs ++ [])) H Q E0) : tMeth C m sp [] E0 ta t σ H Q := by
  obtain ⟨dx, h⟩ := h
  exact ha _ ⟨a, dx, fs, rfl, h, hn, hv _ q⟩
theorem ex_fn (hv : ArgV t σ H vs) (q : sp (vs ++ []) H Q E0) : tCall sp [] E0 t σ H Q := hv _ q
/-- a def's value -/
theorem val_fn (hv : ArgV t σ H vs) (q : ∀ Q : VK, Q v H → sp (vs ++ []) H Q E0) : Val (tCall sp [] E0 t) σ H v := fun Q h => hv _ (q Q h)
theorem val_mt (ha : Val ta σ H (.ref a)) (h : ObjAt C H a fs) (hn : fs.lookup m = none) (hv : ArgV t σ H vs) (q : ∀ Q : VK, Q v H → sp (.ref a :: (vs ++ [])) H Q E0) : Val (tMeth C m sp [] E0 ta t) σ H v := fun Q k => ex_mt ha h hn hv (q Q k)
/-- a store -/
theorem st_obj (hv : Val tv σ H y) (ha : Val ta σ H (.ref a)) (h : ObjAt C H a fs) (c : Cls K C) (n : NoAttr K C f) (hl : fs.length < 1000) (e : putF f y fs = fs') (q : ∀ H', ObjAt C H' a fs' → Fr [a] H H' → D.nx σ H') : sFld K ta tv f D σ H := by
  obtain ⟨dx, h⟩ := h
  refine hv _ (ha _ ⟨a, C, dx, fs, rfl, h, c, n, hl, ?_⟩)
  rw [e]
  exact q _ ⟨dx, upd_same⟩ Fr.up
/-- .. behind a value that made something -/
theorem sto_obj (ha : Val ta σ H (.ref a)) (h : ObjAt C H a fs) (c : Cls K C) (n : NoAttr K C f) (hl : fs.length < 1000) (e : putF f y fs = fs') (q : ∀ H', ObjAt C H' a fs' → Fr [a] H H' → D.nx σ H') :
    ta σ H fun x H2 => ∃ a C dx fs, x = .ref a ∧ H2 a = some (.ins C dx fs) ∧ Cls K C ∧ NoAttr K C f ∧ fs.length < 1000 ∧ D.nx σ (upd H2 a (.ins C dx (putF f y fs))) := by
  obtain ⟨dx, h⟩ := h
  refine ha _ ⟨a, C, dx, fs, rfl, h, c, n, hl, ?_⟩
  rw [e]
  exact q _ ⟨dx, upd_same⟩ Fr.up
/-- o.f += e, o.f -= e -/
theorem st_objaug {rd : V → V → Hp → VK → Prop} {x z : V} (ha : Val ta σ H (.ref a)) (h : ObjAt C H a fs) (c : Cls K C) (n : NoAttr K C f) (l : fs.lookup f = some x) (hv : Val tv σ H y) (hr : ∀ Q : VK, Q z H → rd x y H Q) (hl : fs.length < 1000) (e : putF f z fs = fs')
    (q : ∀ H', ObjAt C H' a fs' → Fr [a] H H' → D.nx σ H') : sFldAug K ta tv rd f D σ H := by
  obtain ⟨dx, h⟩ := h
  refine ha _ ⟨a, C, dx, fs, x, rfl, h, c, n, l, hv _ (hr _ ⟨dx, fs, h, hl, ?_⟩)⟩
  rw [e]
  exact q _ ⟨dx, upd_same⟩ Fr.up
/-- objects of unlike content stand apart -/
theorem ObjAt.ne {a b : Addr} {o : HO} (h : ObjAt C H a fs) (h2 : H b = some o) (hd : ∀ dx, HO.ins C dx fs ≠ o) : a ≠ b := by
  obtain ⟨dx, h⟩ := h
  exact ne_of h h2 (hd dx)
theorem ObjAt.lst {a b : Addr} {xs : List V} (h : ObjAt C H a fs) (h2 : H b = some (.lst xs)) : a ≠ b := h.ne h2 fun _ q => nomatch q
theorem ObjAt.tup {a b : Addr} {xs : List V} (h : ObjAt C H a fs) (h2 : H b = some (.tup xs)) : a ≠ b := h.ne h2 fun _ q => nomatch q
theorem ObjAt.dK {a b : Addr} {xs : List (Key × V)} (h : ObjAt C H a fs) (h2 : H b = some (.dK xs)) : a ≠ b := h.ne h2 fun _ q => nomatch q
theorem ObjAt.ins {C' : Addr} {fs2 : List (Str × V)} {a b : Addr} (h : ObjAt C H a fs) (h2 : ObjAt C' H b fs2) (hl : fs.length ≠ fs2.length) : a ≠ b := by
  obtain ⟨dx2, h2⟩ := h2
  refine h.ne h2 fun dx q => ?_
  cases q
  exact hl rfl
theorem ObjAt.fr {F : List Addr} {H' : Hp} {a : Addr} (h : ObjAt C H a fs) (f : Fr F H H') (n : a ∉ F) : ObjAt C H' a fs := by
  obtain ⟨dx, h⟩ := h
  exact ⟨dx, f _ _ h n⟩
theorem ObjAt.nn {p a : Addr} (h : ObjAt C H a fs) (hp : H p = none) : p ≠ a := fun q => by
  obtain ⟨dx, h⟩ := h
  rw [← q, hp] at h
  cases h
theorem ObjAt.same {H' : Hp} {a : Addr} (h : ObjAt C H a fs) (f : Same H H') : ObjAt C H' a fs := by
  obtain ⟨dx, h⟩ := h
  exact ⟨dx, f _ _ h⟩
end
structure GiverAt (K : PySem.W.Frag) (H : Hp) (a lk : Addr) (g : Gv) : Prop where
  ob : ObjAt (He.ga K "Giver") H a (gf g lk)
  kp : H lk = some (.lst (g.kept.map It.v))
theorem GiverAt.fr {K : PySem.W.Frag} {F : List Addr} {H H' : Hp} {a lk : Addr} {g : Gv} (h : GiverAt K H a lk g) (f : Fr F H H') (n1 : a ∉ F) (n2 : lk ∉ F) : GiverAt K H' a lk g := ⟨h.ob.fr f n1, f _ _ h.kp n2⟩
theorem GiverAt.same {K : PySem.W.Frag} {H H' : Hp} {a lk : Addr} {g : Gv} (h : GiverAt K H a lk g) (f : Same H H') : GiverAt K H' a lk g := ⟨h.ob.same f, f _ _ h.kp⟩
theorem GiverAt.ne {K : PySem.W.Frag} {H : Hp} {a lk : Addr} {g : Gv} (h : GiverAt K H a lk g) : a ≠ lk := h.ob.lst h.kp
/-- its list stands, where a alone was changed -/
theorem GiverAt.kept {K : PySem.W.Frag} {H H' : Hp} {a lk : Addr} {g : Gv} (h : GiverAt K H a lk g) (f : Fr [a] H H') : H' lk = some (.lst (g.kept.map It.v)) := f _ _ h.kp (by simp [h.ne.symm])
end SW
end
section
set_option maxRecDepth 100000
set_option maxHeartbeats 4000000
/-! Giver: the small methods. -/
namespace SW
open PySem PySem.Spec PyProof.Rows L2
def spGInit (K : PySem.W.Frag) : Sp := fun vs H Q _ => ∃ (a : Addr) (f : Nat), vs = [.ref a, .int f, .int 32, .int 4] ∧ f < 4294967296 ∧ ObjAt (He.ga K "Giver") H a [] ∧
  ∀ lk H', H lk = none → GiverAt K H' a lk (.new f) → Fr [a] H H' → Q .non H'
def spGNeedTick (K : PySem.W.Frag) : Sp := fun vs H Q _ => ∃ (a lk : Addr) (g : Gv) (t : Nat), vs = [.ref a, .int t] ∧ GiverAt K H a lk g ∧ g.now ≤ t ∧ ∀ H', GiverAt K H' a lk { g with now := t } → Fr [a] H H' → Q .non H'
def spGIsCounted (K : PySem.W.Frag) : Sp := fun vs H Q _ => ∃ (a lk : Addr) (g : Gv), vs = [.ref a] ∧ GiverAt K H a lk g ∧ Q (.bl g.counted) H
def spGCount (K : PySem.W.Frag) : Sp := fun vs H Q _ => ∃ (a lk : Addr) (g : Gv) (t : Nat), vs = [.ref a, .int t] ∧ GiverAt K H a lk g ∧ ∀ H', GiverAt K H' a lk (g.count t) → Fr [a] H H' → Q .non H'
def spGFinish (K : PySem.W.Frag) : Sp := fun vs H Q _ => ∃ (a lk : Addr) (g : Gv), vs = [.ref a] ∧ GiverAt K H a lk g ∧ g.kept.length < 10000 ∧ ∀ H', GiverAt K H' a lk g.finish → Fr [a, lk] H H' → Q .non H'
def spGTries (K : PySem.W.Frag) : Sp := fun vs H Q _ => ∃ (a lk : Addr) (g : Gv), vs = [.ref a] ∧ GiverAt K H a lk g ∧ Q (.int g.tried) H
def spGLeft (K : PySem.W.Frag) : Sp := fun vs H Q _ => ∃ (a lk : Addr) (g : Gv), vs = [.ref a] ∧ GiverAt K H a lk g ∧ Q (.int g.kept.length) H
def spGAnswered (K : PySem.W.Frag) : Sp := fun vs H Q _ => ∃ (a lk : Addr) (g : Gv), vs = [.ref a] ∧ GiverAt K H a lk g ∧ Q (.int g.passed) H
def spGNext (K : PySem.W.Frag) : Sp := fun vs H Q _ => ∃ (a lk : Addr) (g : Gv), vs = [.ref a] ∧ GiverAt K H a lk g ∧ g.base < 4294967296 ∧ Q (.int g.next) H
theorem moved_int (a n : Nat) : ((a : Int) + n) % 4294967296 = (moved a n : Nat) := by
  unfold moved
  rw [M_eq]
  omega
section
variable {P : Program} {w : World} {K : PySem.W.Frag} {mg : Str → Option Value} {base : Heap}
theorem ok_Giver_need_tick (S : Says K mg) (F_is_number_givers : Fn P w K mg base 1 "is_number_givers" ["thing", "least"] spIsNum) : Mt P w K mg base 2 "Giver" "need_tick" ["self", "tick"] (spGNeedTick K) := by
  obtain ⟨fd, F⟩ := S.u_Giver_need_tick
  have sc : FnScope ["self", "tick"] ["self", "tick"] (defScope s_Giver_need_tick) := ⟨rfl, rfl, rfl, by decide +kernel, rfl, by decide +kernel, by decide +kernel⟩
  refine ⟨⟨fd, F.ok sc (fun vs H Q E h => ?_) (fun cdv A outer s H vs Q E hr h => ⟨_, PSs.nox (pss_cons (ps_if (pt_not (pt_val (pe_fn F_is_number_givers (hr.mono (by decide)) (pa_cons (pv 1) (pa_cons (pe_fld (pv 0) rfl) pa_nil))))) (pss_one ps_never) pss_nil)
      (pss_one (ps_fld (pv 0) (pv 1) rfl))), ?_⟩), F.bindsN (fun _ _ _ _ _ _ us hl => match us, hl with | [_, _], _ => rfl)⟩, S.c_Giver, S.m_Giver_need_tick⟩
  · obtain ⟨_, _, _, _, rfl, _⟩ := h
    rfl
  · obtain ⟨a, lk, g, t, rfl, G, ht, k⟩ := h
    refine st_seq (st_no (ans_not (b := true) (ans_val ?_)) ?_)
    · refine val_fn (arg_cons (val_var rfl) (arg_cons (val_obj (val_var rfl) G.ob S.c_Giver S.n_Giver_now gf_now) arg_nil)) fun Q q => ⟨_, _, rfl, ?_⟩
      rw [decide_eq_true (by omega)]
      exact q
    · dsimp only
      exact st_obj (val_var rfl) (val_var rfl) G.ob S.c_Giver S.n_Giver_now gf_few (gp_now t) fun H' o f => k H' ⟨o, G.kept f⟩ f
theorem ok_Giver_is_counted (S : Says K mg)  : Mt P w K mg base 1 "Giver" "is_counted" ["self"] (spGIsCounted K) := by
  obtain ⟨fd, F⟩ := S.u_Giver_is_counted
  have sc : FnScope ["self"] ["self"] (defScope s_Giver_is_counted) := ⟨rfl, rfl, rfl, by decide +kernel, rfl, by decide +kernel, by decide +kernel⟩
  refine ⟨⟨fd, F.ok sc (fun vs H Q E h => ?_) (fun cdv A outer s H vs Q E hr h => ⟨_, PSs.nox (pss_one (ps_ret (pe_or (pe_cmpR op_gt (pe_fld (pv 0) rfl) pe_int (nomark _)) (pe_one (pe_and (pe_cmpR op_gt (pe_callB call_len rfl S.f_len boot_len (pa_cons (pe_fld (pv 0) rfl) pa_nil)) pe_int (nomark _)) (pe_one (pe_cmpR op_eq (pe_fld (pv 0) rfl) pe_int (nomark _)))))))), ?_⟩), F.bindsN (fun _ _ _ _ _ _ us hl => match us, hl with | [_], _ => rfl)⟩, S.c_Giver, S.m_Giver_is_counted⟩
  · obtain ⟨_, _, _, rfl, _⟩ := h
    rfl
  · obtain ⟨a, lk, g, rfl, G, k⟩ := h
    refine st_ret (v := .bl g.counted) ?_ k
    unfold Gv.counted
    by_cases c : 0 < g.sent
    · rw [decide_eq_true c]
      refine val_orT ?_
      exact val_to (val_rI0 (val_obj (val_var rfl) G.ob S.c_Giver S.n_Giver_sent gf_sent) val_c) (by rw [decide_eq_true (by omega)])
    · rw [decide_eq_false c]
      refine val_orF (val_to (val_rI0 (val_obj (val_var rfl) G.ob S.c_Giver S.n_Giver_sent gf_sent) val_c) (by rw [decide_eq_false (by omega)])) ?_
      have hl := val_len_lst (K := K) (σ := L2.start ["self"] [V.ref a]) (val_obj (f := "kept") (val_var (i := 0) rfl) G.ob S.c_Giver S.n_Giver_kept gf_kept) (SqL.of G.kp)
      rw [List.length_map] at hl
      by_cases c2 : 0 < g.kept.length
      · rw [decide_eq_true c2]
        refine val_andT (val_to (val_rI0 hl val_c) (by rw [decide_eq_true (by omega)])) ?_
        refine val_to (val_op (val_obj (val_var rfl) G.ob S.c_Giver S.n_Giver_reach gf_reach) val_c fun Q q => ⟨rfl, q⟩) ?_
        have : decide (V.int (g.reach : Int) = V.int 0) = decide (g.reach = 0) := by
          rw [dec_int]
          by_cases c3 : g.reach = 0
          · rw [c3]; rfl
          · rw [decide_eq_false c3, beq_eq_false_iff_ne]; omega
        rw [this]
        rfl
      · rw [decide_eq_false c2]
        exact val_andF (val_to (val_rI0 hl val_c) (by rw [decide_eq_false (by omega)]))
theorem ok_Giver_tries (S : Says K mg)  : Mt P w K mg base 1 "Giver" "tries" ["self"] (spGTries K) := by
  obtain ⟨fd, F⟩ := S.u_Giver_tries
  have sc : FnScope ["self"] ["self"] (defScope s_Giver_tries) := ⟨rfl, rfl, rfl, by decide +kernel, rfl, by decide +kernel, by decide +kernel⟩
  refine ⟨⟨fd, F.ok sc (fun vs H Q E h => ?_) (fun cdv A outer s H vs Q E hr h => ⟨_, PSs.nox (pss_one (ps_ret (pe_fld (pv 0) rfl))), ?_⟩), F.bindsN (fun _ _ _ _ _ _ us hl => match us, hl with | [_], _ => rfl)⟩, S.c_Giver, S.m_Giver_tries⟩
  · obtain ⟨_, _, _, rfl, _⟩ := h
    rfl
  · obtain ⟨a, lk, g, rfl, G, k⟩ := h
    exact st_ret (val_obj (val_var rfl) G.ob S.c_Giver S.n_Giver_tried gf_tried) k
theorem ok_Giver_answered (S : Says K mg)  : Mt P w K mg base 1 "Giver" "answered" ["self"] (spGAnswered K) := by
  obtain ⟨fd, F⟩ := S.u_Giver_answered
  have sc : FnScope ["self"] ["self"] (defScope s_Giver_answered) := ⟨rfl, rfl, rfl, by decide +kernel, rfl, by decide +kernel, by decide +kernel⟩
  refine ⟨⟨fd, F.ok sc (fun vs H Q E h => ?_) (fun cdv A outer s H vs Q E hr h => ⟨_, PSs.nox (pss_one (ps_ret (pe_fld (pv 0) rfl))), ?_⟩), F.bindsN (fun _ _ _ _ _ _ us hl => match us, hl with | [_], _ => rfl)⟩, S.c_Giver, S.m_Giver_answered⟩
  · obtain ⟨_, _, _, rfl, _⟩ := h
    rfl
  · obtain ⟨a, lk, g, rfl, G, k⟩ := h
    exact st_ret (val_obj (val_var rfl) G.ob S.c_Giver S.n_Giver_passed gf_passed) k
theorem ok_Giver_left (S : Says K mg)  : Mt P w K mg base 1 "Giver" "left" ["self"] (spGLeft K) := by
  obtain ⟨fd, F⟩ := S.u_Giver_left
  have sc : FnScope ["self"] ["self"] (defScope s_Giver_left) := ⟨rfl, rfl, rfl, by decide +kernel, rfl, by decide +kernel, by decide +kernel⟩
  refine ⟨⟨fd, F.ok sc (fun vs H Q E h => ?_) (fun cdv A outer s H vs Q E hr h => ⟨_, PSs.nox (pss_one (ps_ret (pe_callB call_len rfl S.f_len boot_len (pa_cons (pe_fld (pv 0) rfl) pa_nil)))), ?_⟩), F.bindsN (fun _ _ _ _ _ _ us hl => match us, hl with | [_], _ => rfl)⟩, S.c_Giver, S.m_Giver_left⟩
  · obtain ⟨_, _, _, rfl, _⟩ := h
    rfl
  · obtain ⟨a, lk, g, rfl, G, k⟩ := h
    refine st_ret (val_len_lst (val_obj (val_var rfl) G.ob S.c_Giver S.n_Giver_kept gf_kept) (SqL.of G.kp)) ?_
    rw [List.length_map]
    exact k
theorem ok_Giver_next_number (S : Says K mg) (F_moved : Fn P w K mg base 2 "moved" ["number", "by", "size"] spMoved) : Mt P w K mg base 3 "Giver" "next_number" ["self"] (spGNext K) := by
  obtain ⟨fd, F⟩ := S.u_Giver_next_number
  have sc : FnScope ["self"] ["self"] (defScope s_Giver_next_number) := ⟨rfl, rfl, rfl, by decide +kernel, rfl, by decide +kernel, by decide +kernel⟩
  refine ⟨⟨fd, F.ok sc (fun vs H Q E h => ?_) (fun cdv A outer s H vs Q E hr h => ⟨_, PSs.nox (pss_one (ps_ret (pe_fn F_moved (hr.mono (by decide)) (pa_cons (pe_fld (pv 0) rfl) (pa_cons (pe_fld (pv 0) rfl) (pa_cons (pe_gi S.i_SIZE_givers) pa_nil)))))), ?_⟩), F.bindsN (fun _ _ _ _ _ _ us hl => match us, hl with | [_], _ => rfl)⟩, S.c_Giver, S.m_Giver_next_number⟩
  · obtain ⟨_, _, _, rfl, _⟩ := h
    rfl
  · obtain ⟨a, lk, g, rfl, G, hb, k⟩ := h
    refine st_ret (v := .int g.next) (val_fn (arg_cons (val_obj (val_var rfl) G.ob S.c_Giver S.n_Giver_base gf_base) (arg_cons (val_obj (val_var rfl) G.ob S.c_Giver S.n_Giver_sent gf_sent) (arg_cons val_c arg_nil))) fun Q q => ⟨_, _, _, rfl, rfl, hb, ?_⟩) k
    rw [moved_int]
    exact q
theorem ok_Giver_count (S : Says K mg) (F_Giver_is_counted : Mt P w K mg base 1 "Giver" "is_counted" ["self"] (spGIsCounted K)) : Mt P w K mg base 2 "Giver" "count" ["self", "tick"] (spGCount K) := by
  obtain ⟨fd, F⟩ := S.u_Giver_count
  have sc : FnScope ["self", "tick"] ["self", "tick"] (defScope s_Giver_count) := ⟨rfl, rfl, rfl, by decide +kernel, rfl, by decide +kernel, by decide +kernel⟩
  refine ⟨⟨fd, F.ok sc (fun vs H Q E h => ?_) (fun cdv A outer s H vs Q E hr h => ⟨_, PSs.nox (pss_one (ps_if (pt_not (pt_val (pe_mt0 (pv 0) F_Giver_is_counted (hr.mono (by decide))))) (pss_one (ps_fld (pv 0) pe_non rfl)) (pss_one (ps_if (pt_cmpR op_isN (pe_fld (pv 0) rfl) pe_non (nomark _)) (pss_one (ps_fld (pv 0) (pv 1) rfl)) pss_nil)))), ?_⟩), F.bindsN (fun _ _ _ _ _ _ us hl => match us, hl with | [_, _], _ => rfl)⟩, S.c_Giver, S.m_Giver_count⟩
  · obtain ⟨_, _, _, _, rfl, _⟩ := h
    rfl
  · obtain ⟨a, lk, g, t, rfl, G, k⟩ := h
    have hc : Ans (tNot (tB (tMeth (He.ga K "Giver") "is_counted" (spGIsCounted K) [] E0 (tVar 0) tNil))) (L2.start ["self", "tick"] [V.ref a, V.int t]) H (!g.counted) :=
      ans_not (ans_val (val_mt (val_var rfl) G.ob (by kernel_rfl) arg_nil fun Q q => ⟨a, lk, g, rfl, G, q⟩))
    have hg : g.count t = if g.counted = true then (match g.since with | none => { g with since := some t } | some _ => g) else { g with since := none } := rfl
    refine st_if hc (fun h1 => ?_) (fun h1 => ?_)
    · have h1 : g.counted = false := by simpa using h1
      rw [if_neg (by rw [h1]; decide)] at hg
      refine st_obj val_c (val_var rfl) G.ob S.c_Giver S.n_Giver_since gf_few (gp_since none) fun H' o f => k H' ?_ f
      rw [hg]
      exact ⟨o, G.kept f⟩
    · have h1 : g.counted = true := by simpa using h1
      rw [if_pos h1] at hg
      cases e : g.since with
      | none =>
        rw [e] at hg
        refine st_yes (ans_isN' (val_to (y := .non) (val_obj (val_var rfl) G.ob S.c_Giver S.n_Giver_since gf_since) (by rw [e]; rfl)) rfl) ?_
        refine st_obj (val_var rfl) (val_var rfl) G.ob S.c_Giver S.n_Giver_since gf_few (gp_since (some t)) fun H' o f => k H' ?_ f
        rw [hg]
        exact ⟨o, G.kept f⟩
      | some s =>
        rw [e] at hg
        refine st_no (ans_isN' (val_to (y := .int s) (val_obj (val_var rfl) G.ob S.c_Giver S.n_Giver_since gf_since) (by rw [e]; rfl)) rfl) ?_
        refine k H ?_ (Fr.refl _ _)
        rw [hg]
        exact G
end
end SW
end
section
set_option maxRecDepth 100000
set_option maxHeartbeats 4000000
/-! Rules of my own: a list extended by a tuple. -/
namespace SW
open PySem PySem.Spec PyProof.Rows L2
theorem ext_tup (l b : Addr) (xs ys : Array Value) (n m : Nat) (dd : Option Addr) (sl : Array (Option Value)) (h0 : ¬(!xs.isEmpty && Builtin.List.listTooLong (xs.size + ys.size)) = true) (h1 : xs.size ≤ sizeLine) (h2 : xs.size + ys.size ≤ sizeLine + 1) :
    Meets (Builtin.«list.extend» ⟨[.ref l, .ref b], []⟩) (fun _ R s => s.heap.get? l = some { cls := .type "list", dict := none, data := .seq xs n, slots := #[] } ∧ s.heap.get? b = some { cls := .type "tuple", dict := dd, data := .seq ys m, slots := sl } ∧
      R (.ok (.ret Value.none)) { s with heap := s.heap.update l (Obj.mapSeq fun x => x ++ ys), toks := s.toks }) :=
  .of_wp fun prog w A R s h => by
    obtain ⟨hp, g, d, tk, os⟩ := s
    obtain ⟨hl, hb, h⟩ := h
    have f1 := sub_tuple_tuple
    have f2 := sub_list_list
    have f3 := sub_tuple_list
    have f4 := sub_list_tuple
    have hz' : (xs ++ ys).size ≤ sizeLine + 1 := by
      rw [Array.size_append]
      exact h2
    wp_walk using (wpAny_updateSeq hl rfl (hz := h1) (_hz' := hz')), wpAny_loadPart' hl, wpAny_loadPart' hb
    exact ⟨_, rfl, h⟩
section
variable {X : Cx}
def rExtT (K : PySem.W.Frag) : V → List V → Hp → VK → Prop := fun x vs H Q => ∃ l b xs zs, x = .ref l ∧ vs = [.ref b] ∧ H l = some (.lst xs) ∧ SqT K H b zs ∧ xs.length + zs.length ≤ sizeLine ∧ Q .non (upd H l (.lst (xs ++ zs)))
theorem mt_extT : MtM X "list.extend" (rExtT X.K) := by
  intro pins s σ H x vs v us Q I rx rv h
  obtain ⟨l, b, xs, zs, rfl, rfl, hH, hB, hz, q⟩ := h
  cases rx
  obtain ⟨u, rfl, ru⟩ := rv.one
  cases ru
  obtain ⟨z, its, n, r, hl, e⟩ := I.lstM hH
  obtain ⟨its2, r2, ⟨⟨oc, od, dt, sl⟩, e2, h1, m, h2⟩, z2⟩ := I.tuple hB
  have hl2 : zs.length = its2.length := r2.length
  simp only at h1 h2
  subst h1 h2
  have hsz : its.toArray.size + its2.toArray.size ≤ sizeLine := by
    rw [List.size_toArray, List.size_toArray]
    omega
  have h0 : ¬ (!its.toArray.isEmpty && Builtin.List.listTooLong (its.toArray.size + its2.toArray.size)) = true := by
    rw [notLongL hsz, Bool.and_false]
    exact fun q => nomatch q
  have h3 : its.toArray.size ≤ sizeLine := by rw [List.size_toArray]; omega
  refine call_meets F.slot_list_extend ⟨_, e, rfl⟩ F.entry_list_extend (F.args_list_extend_2 _ _) (ext_tup l b its.toArray its2.toArray n m od sl h0 h3 (by omega)) ⟨e, e2, ?_⟩
  exact ⟨.non, _, I.lset (its' := its ++ its2) hH e (by simp) (r.append r2) (by rw [List.length_append]; omega), rfl, q⟩
end
/-! ### slices -/
theorem cut_take (xs : List V) (k : Nat) : cutV xs none (some (k : Int)) = xs.take k := by
  unfold cutV
  rw [HT.sIx_none, HT.sIx_nat, List.drop_zero, Nat.sub_zero]
  by_cases c : k ≤ xs.length
  · rw [Nat.min_eq_left c]
  · rw [Nat.min_eq_right (by omega), List.take_of_length_le (Nat.le_refl _), List.take_of_length_le (by omega)]
theorem cut_drop (xs : List V) (k : Nat) : cutV xs (some (k : Int)) none = xs.drop k := by
  unfold cutV
  rw [HT.sIx_none, HT.sIx_nat]
  by_cases c : k ≤ xs.length
  · rw [Nat.min_eq_left c, List.take_of_length_le (by rw [List.length_drop]; exact Nat.le_refl _)]
  · have e1 : xs.drop k = [] := List.drop_eq_nil_of_le (by omega)
    have e2 : xs.drop (min k xs.length) = [] := List.drop_eq_nil_of_le (by omega)
    rw [e1, e2, List.take_nil]
theorem cut_mid (xs : List V) (i m : Nat) : cutV xs (some (i : Int)) (some ((i + m : Nat) : Int)) = (xs.drop i).take m := by
  unfold cutV
  rw [HT.sIx_nat, HT.sIx_nat]
  by_cases c : i ≤ xs.length
  · rw [Nat.min_eq_left c]
    by_cases c2 : i + m ≤ xs.length
    · rw [Nat.min_eq_left c2, show i + m - i = m by omega]
    · rw [Nat.min_eq_right (by omega), List.take_of_length_le (by rw [List.length_drop]; exact Nat.le_refl _), List.take_of_length_le (by rw [List.length_drop]; omega)]
  · have e1 : xs.drop i = [] := List.drop_eq_nil_of_le (by omega)
    have e2 : xs.drop (min i xs.length) = [] := List.drop_eq_nil_of_le (by omega)
    rw [e1, e2, List.take_nil, List.take_nil]
section
variable {K : PySem.W.Frag} {H : Hp} {a : Addr} {xs : List V} {k : Nat} {Q : VK}
theorem sl_take (h : H a = some (.tup xs)) (q : ∀ b H2, Same H H2 → H2 b = some (.tup (xs.take k)) → Q (.ref b) H2) : rSlA K (.ref a) none (some (k : Int)) H Q := by
  refine ⟨a, xs, rfl, SqT.of h, fun hw => ?_, fun _ p hp => ?_⟩
  · have hw2 := hw.2
    rw [HT.sIx_nat] at hw2
    refine q a H (Same.refl H) ?_
    rw [List.take_of_length_le (by omega)]
    exact h
  · rw [cut_take]
    exact q p _ (Same.new hp) upd_same
theorem sl_drop (h : H a = some (.tup xs)) (q : ∀ b H2, Same H H2 → H2 b = some (.tup (xs.drop k)) → Q (.ref b) H2) : rSlA K (.ref a) (some (k : Int)) none H Q := by
  refine ⟨a, xs, rfl, SqT.of h, fun hw => ?_, fun _ p hp => ?_⟩
  · have hw1 := hw.1
    rw [HT.sIx_nat] at hw1
    refine q a H (Same.refl H) ?_
    by_cases c : k = 0
    · rw [c]; exact h
    · have : xs = [] := List.eq_nil_of_length_eq_zero (by omega)
      rw [this] at h ⊢
      rw [List.drop_nil]
      exact h
  · rw [cut_drop]
    exact q p _ (Same.new hp) upd_same
end
/-! ### readings whose values make something -/
section
variable {K : PySem.W.Frag} {σ : L2.St} {H : Hp} {ta tb te to : TE} {t tr : TA} {x y v : V} {xs vs : List V} {D : Ends} {Q : VK} {R : List V → Hp → Prop} {r : V → List V → Hp → VK → Prop} {rc : List V → Hp → VK → Prop} {r2 : R2} {T : String} {i : Nat} {f : Str}
theorem ta_nil (q : R [] H) : tNil σ H R := q
theorem st_dr (q : te σ H fun _ H1 => D.nx σ H1) : tDrop te D σ H := q
theorem st_as (q : te σ H fun v H1 => D.nx (σ.set i (some v)) H1) : tAsg te (gName i) D σ H := q
theorem st_av (h : Val te σ H v) (q : D.nx (σ.set i (some v)) H) : tAsg te (gName i) D σ H := h _ q
theorem st_rt (q : te σ H D.rt) : tRet te D σ H := q
theorem ex_v (h : Val te σ H v) (q : Q v H) : te σ H Q := h _ q
theorem ex_c1 (h : Val te σ H v) (q : tr σ H fun ys H2 => R (v :: ys) H2) : tCons te tr σ H R := h _ q
theorem ex_ce (q : te σ H fun x H1 => tr σ H1 fun ys H2 => R (x :: ys) H2) : tCons te tr σ H R := q
theorem ex_cb (h : ArgV t σ H vs) (q : rc vs H Q) : tCB rc t σ H Q := h _ q
theorem ex_cbe (q : t σ H fun vs H1 => rc vs H1 Q) : tCB rc t σ H Q := q
theorem ex_bm (h : Val to σ H x) (ty : tyV K T x H) (ha : ArgV t σ H vs) (q : r x vs H Q) : tBM K T r to t σ H Q := h _ ⟨ty, ha _ q⟩
theorem ex_bme (h : Val to σ H x) (ty : tyV K T x H) (q : t σ H fun vs H1 => r x vs H1 Q) : tBM K T r to t σ H Q := h _ ⟨ty, q⟩
theorem ex_op1 (h : Val ta σ H x) (q : tb σ H fun y H2 => r2 x y H2 Q) : tOp r2 ta tb σ H Q := h _ q
theorem ex_ope (q : ta σ H fun x H1 => tb σ H1 fun y H2 => r2 x y H2 Q) : tOp r2 ta tb σ H Q := q
theorem ty_lst {a : Addr} {ys : List V} (h : H a = some (.lst ys)) : tyV K "list" (.ref a) H := .inl ⟨rfl, _, SqL.of h⟩
/-- x.f = value, the value making something -/
theorem st_fe (q : te σ H fun y H1 => ta σ H1 fun x H2 => ∃ a C dx fs, x = .ref a ∧ H2 a = some (.ins C dx fs) ∧ Cls K C ∧ NoAttr K C f ∧ fs.length < 1000 ∧ D.nx σ (upd H2 a (.ins C dx (putF f y fs)))) : sFld K ta te f D σ H := q
/-- a comprehension over a list that stands -/
theorem ex_lcl {tl : TE} {g : TG} {tt : TT} {ws : List Nat} {a : Addr} {ys : List V} (ha : Val tl σ H (.ref a)) (h : H a = some (.lst ys)) (Pv : Addr → Nat → Hp → Prop)
    (h0 : ∀ D, H D = none → Pv D 0 (upd H D (.lst []))) (hl : ∀ D i H', H D = none → Pv D i H' → H' a = some (.lst ys))
    (hs : ∀ D i x H', H D = none → ys[i]? = some x → Pv D i H' → g x (wipe σ ws) H' fun σ2 H2 => wipe σ2 ws = wipe σ ws ∧ tt σ2 H2 fun b H3 =>
      if b = true then te σ2 H3 fun y H4 => ∃ acc, H4 D = some (.lst acc) ∧ acc.length < sizeLine ∧ Pv D (i + 1) (upd H4 D (.lst (acc ++ [y]))) else Pv D (i + 1) H3)
    (hd : ∀ D H', H D = none → Pv D ys.length H' → Q (.ref D) H') : tLc (iList K tl) g tt te ws σ H Q :=
  ha _ ⟨a, rfl, ⟨_, SqL.of h⟩, fun D hD => lc_list (K := K) (a := a) (xs := ys) (Pv D) (h0 D hD) (fun i H' _ p => SqL.of (hl D i H' hD p)) (fun i x H' hx p => hs D i x H' hD hx p) fun H' p => hd D H' hD p⟩
theorem ex_lct {tl : TE} {g : TG} {tt : TT} {ws : List Nat} {a : Addr} {ys : List V} (ha : Val tl σ H (.ref a)) (h : H a = some (.tup ys)) (Pv : Addr → Nat → Hp → Prop)
    (h0 : ∀ D, H D = none → Pv D 0 (upd H D (.lst []))) (hl : ∀ D i H', H D = none → Pv D i H' → H' a = some (.tup ys))
    (hs : ∀ D i x H', H D = none → ys[i]? = some x → Pv D i H' → g x (wipe σ ws) H' fun σ2 H2 => wipe σ2 ws = wipe σ ws ∧ tt σ2 H2 fun b H3 =>
      if b = true then te σ2 H3 fun y H4 => ∃ acc, H4 D = some (.lst acc) ∧ acc.length < sizeLine ∧ Pv D (i + 1) (upd H4 D (.lst (acc ++ [y]))) else Pv D (i + 1) H3)
    (hd : ∀ D H', H D = none → Pv D ys.length H' → Q (.ref D) H') : tLc (iTup K tl) g tt te ws σ H Q :=
  ha _ ⟨a, rfl, ⟨_, SqT.of h⟩, fun D hD => lc_tup (K := K) (a := a) (xs := ys) (Pv D) (h0 D hD) (fun i H' _ p => SqT.of (hl D i H' hD p)) (fun i x H' hx p => hs D i x H' hD hx p) fun H' p => hd D H' hD p⟩
theorem rlen_l {a : Addr} {ys : List V} (h : SqL K H a ys) (q : Q (.int (ys.length : Nat)) H) : (fun (xs : List V) (H : Hp) (Q : VK) => ∃ x n, xs = [x] ∧ LenV K x H n ∧ Q (.int (n : Nat)) H) [.ref a] H Q := ⟨_, ys.length, rfl, .inl ⟨_, h, rfl⟩, q⟩
theorem slt_e {lo hi : TO} {rs : V → Option Int → Option Int → Hp → VK → Prop} (h : Val te σ H x) (q : lo σ H fun l H2 => hi σ H2 fun u H3 => rs x l u H3 Q) : tSl rs te lo hi σ H Q := h _ q
theorem po_n {Q : Option Int → Hp → Prop} (q : Q none H) : tNoPart σ H Q := q
theorem po_v {Q : Option Int → Hp → Prop} {n : Int} (h : Val te σ H (.int n)) (q : Q (some n) H) : tPart te σ H Q := h _ ⟨n, rfl, q⟩
end
section
variable {K : PySem.W.Frag} {σ : L2.St} {H : Hp} {ta tv te : TE} {c : TT} {t1 t2 u : TS} {D : Ends} {C a : Addr} {fs fs' : List (Str × V)} {f : Str} {x y z v : V} {i : Nat}
theorem sq_no (h : Ans c σ H false) (q : u D σ H) : tSeq (tIfS c t1 tNext) u D σ H := h _ (iteF q)
theorem sq_yes (h : Ans c σ H true) (q : t1 { D with nx := u D } σ H) : tSeq (tIfS c t1 t2) u D σ H := h _ (iteT q)
theorem sq_as (q : te σ H fun v H1 => u D (σ.set i (some v)) H1) : tSeq (tAsg te (gName i)) u D σ H := q
theorem sq_av (h : Val te σ H v) (q : u D (σ.set i (some v)) H) : tSeq (tAsg te (gName i)) u D σ H := h _ q
theorem sq_dr (q : te σ H fun _ H1 => u D σ H1) : tSeq (tDrop te) u D σ H := q
theorem sq_obj (hv : Val tv σ H y) (ha : Val ta σ H (.ref a)) (h : ObjAt C H a fs) (c : Cls K C) (n : NoAttr K C f) (hl : fs.length < 1000) (e : putF f y fs = fs') (q : ∀ H', ObjAt C H' a fs' → Fr [a] H H' → u D σ H') : tSeq (sFld K ta tv f) u D σ H :=
  st_obj (D := { D with nx := u D }) hv ha h c n hl e q
theorem sq_objaug {rd : V → V → Hp → VK → Prop} (ha : Val ta σ H (.ref a)) (h : ObjAt C H a fs) (c : Cls K C) (n : NoAttr K C f) (l : fs.lookup f = some x) (hv : Val tv σ H y) (hr : ∀ Q : VK, Q z H → rd x y H Q) (hl : fs.length < 1000) (e : putF f z fs = fs')
    (q : ∀ H', ObjAt C H' a fs' → Fr [a] H H' → u D σ H') : tSeq (sFldAug K ta tv rd f) u D σ H := st_objaug (D := { D with nx := u D }) ha h c n l hv hr hl e q
/-- an if that leaves through or falls on -/
theorem sq_if {b : Bool} (h : Ans c σ H b) (h1 : b = true → t1 { D with nx := u D } σ H) (h2 : b = false → u D σ H) : tSeq (tIfS c t1 tNext) u D σ H := by
  cases b with
  | true => exact sq_yes h (h1 rfl)
  | false => exact sq_no h (h2 rfl)
end
theorem it_ne_o (it : It) : (!decide (It.v it = .str "o")) = decide (it ≠ .o) := by
  cases it with
  | o => rfl
  | e => decide +kernel
  | b n => rfl
theorem it_eq_e (it : It) : decide (It.v it = .str "e") = decide (it = .e) := by
  cases it with
  | o => decide +kernel
  | e => rfl
  | b n => rfl
theorem it_scal (it : It) (z : Str) : scal (It.v it) (.str z) = true := by
  cases it <;> rfl
end SW
end
section
set_option maxRecDepth 100000
set_option maxHeartbeats 4000000
/-! Giver: made, written, finished, heard. -/
namespace SW
open PySem PySem.Spec PyProof.Rows L2
def spGWrite (K : PySem.W.Frag) : Sp := fun vs H Q _ => ∃ (a lk d : Addr) (g : Gv) (ns : List Nat), vs = [.ref a, .ref d] ∧ GiverAt K H a lk g ∧ H d = some (.tup (ns.map nV)) ∧ ns.length ≤ 1000 ∧ (∀ n ∈ ns, n < 256) ∧ (g.fin = false → full g.kept ≤ 512) ∧ g.kept.length ≤ 6000 ∧
  ∀ H', GiverAt K H' a lk (g.write ns) → Fr [a, lk] H H' → Q (.int (g.many ns)) H'
def spGHeard (K : PySem.W.Frag) : Sp := fun vs H Q _ => ∃ (a lk : Addr) (g : Gv) (ans room t : Nat), vs = [.ref a, .int ans, .int room, .int t] ∧ GiverAt K H a lk g ∧ g.now ≤ t ∧ g.base < 4294967296 ∧ ans < 4294967296 ∧
  ∀ lk' H', (lk' = lk ∨ H lk' = none) → GiverAt K H' a lk' (g.heard ans room t) → Fr [a, lk] H H' → Q (.bl (!decide (g.sent < far g.base ans))) H'
section
variable {P : Program} {w : World} {K : PySem.W.Frag} {mg : Str → Option Value} {base : Heap}
theorem ok_Giver (S : Says K mg) (F_is_number_givers : Fn P w K mg base 1 "is_number_givers" ["thing", "least"] spIsNum) : Mr P w K mg base 2 "Giver" ["self", "first", "most", "wait"] [] (spGInit K) := by
  obtain ⟨fd, F⟩ := S.u_Giver_init
  have sc : FnScope ["self", "first", "most", "wait"] ["self", "first", "most", "wait"] (defScope s_Giver_init) := ⟨rfl, rfl, rfl, by decide +kernel, rfl, by decide +kernel, by decide +kernel⟩
  refine ⟨⟨fd, [], F.ok sc (fun vs H Q E h => ?_) (fun cdv A outer s H vs Q E hr h => ⟨_, PSs.nox (pss_cons (ps_if (PW.pt (pw_or (pt_not (pt_val (pe_fn F_is_number_givers (hr.mono (by decide)) (pa_cons (pv 1) (pa_cons pe_int pa_nil))))) (pw_or (pt_cmpR op_ge (pv 1) (pe_gi S.i_SIZE_givers) (nomark _)) (pw_or (pt_not (pt_val (pe_fn F_is_number_givers (hr.mono (by decide)) (pa_cons (pv 2) (pa_cons pe_int pa_nil))))) (pw_or1 (pt_cmpR op_gt (pv 2) (pe_gi S.i_MOST_IN_PAIR) (nomark _))))))) (pss_one ps_never) pss_nil)
      (pss_cons (ps_if (pt_not (pt_val (pe_fn F_is_number_givers (hr.mono (by decide)) (pa_cons (pv 3) (pa_cons pe_int pa_nil))))) (pss_one ps_never) pss_nil)
      (pss_cons (ps_fld (pv 0) (pv 1) rfl)
      (pss_cons (ps_fld (pv 0) (pv 2) rfl)
      (pss_cons (ps_fld (pv 0) (pv 3) rfl)
      (pss_cons (ps_fld (pv 0) (pv 3) rfl)
      (pss_cons (ps_fld (pv 0) (pe_lst (pa_cons pe_str pa_nil)) rfl)
      (pss_cons (ps_fld (pv 0) pe_int rfl)
      (pss_cons (ps_fld (pv 0) pe_int rfl)
      (pss_cons (ps_fld (pv 0) (pv 2) rfl)
      (pss_cons (ps_fld (pv 0) pe_non rfl)
      (pss_cons (ps_fld (pv 0) pe_int rfl)
      (pss_cons (ps_fld (pv 0) pe_int rfl)
      (pss_cons (ps_fld (pv 0) pe_bl rfl)
      (pss_one (ps_fld (pv 0) pe_int rfl)))))))))))))))), ?_⟩), F.bindsN (fun _ _ _ _ _ _ us hl => match us, hl with | [_, _, _, _], _ => rfl), .nil⟩, S.k_Giver, S.g_Giver⟩
  · obtain ⟨_, _, rfl, _⟩ := h
    rfl
  · obtain ⟨a, f, rfl, hf, O, k⟩ := h
    refine st_seq (st_no (ans_or (b := false) ?_ (ans_or (b := false) ?_ (ans_or (b := false) ?_ ?_))) ?_)
    · refine ans_not (b := true) (ans_val (val_fn (arg_cons (val_var rfl) (arg_cons val_c arg_nil)) fun Q q => ⟨_, _, rfl, ?_⟩))
      rw [decide_eq_true (by omega)]
      exact q
    · exact ans_rI0 (val_var rfl) val_c (by rw [decide_eq_false (by omega)])
    · refine ans_not (b := true) (ans_val (val_fn (arg_cons (val_var rfl) (arg_cons val_c arg_nil)) fun Q q => ⟨_, _, rfl, ?_⟩))
      exact q
    · exact ans_rI0 (val_var rfl) val_c rfl
    dsimp only
    refine st_seq (st_no (ans_not (b := true) (ans_val (val_fn (arg_cons (val_var rfl) (arg_cons val_c arg_nil)) fun Q q => ⟨_, _, rfl, q⟩))) ?_)
    dsimp only
    refine st_seq (st_obj (val_var rfl) (val_var rfl) O S.c_Giver S.n_Giver_base (Nat.le_of_ble_eq_true (by kernel_rfl)) rfl fun H1 O F1 => ?_)
    dsimp only
    refine st_seq (st_obj (val_var rfl) (val_var rfl) O S.c_Giver S.n_Giver_most (Nat.le_of_ble_eq_true (by kernel_rfl)) rfl fun H1 O F2 => ?_)
    replace F1 := F1.trans F2
    dsimp only
    refine st_seq (st_obj (val_var rfl) (val_var rfl) O S.c_Giver S.n_Giver_first_wait (Nat.le_of_ble_eq_true (by kernel_rfl)) rfl fun H1 O F2 => ?_)
    replace F1 := F1.trans F2
    dsimp only
    refine st_seq (st_obj (val_var rfl) (val_var rfl) O S.c_Giver S.n_Giver_wait (Nat.le_of_ble_eq_true (by kernel_rfl)) rfl fun H1 O F2 => ?_)
    replace F1 := F1.trans F2
    dsimp only
    have O4 := O
    refine st_seq ⟨by show 1 ≤ sizeLine; decide, fun lk hlk => sto_obj (val_var rfl) (O.same (Same.new hlk)) S.c_Giver S.n_Giver_kept (Nat.le_of_ble_eq_true (by kernel_rfl)) rfl fun H2 O F2 => ?_⟩
    have hal : lk ≠ a := O4.nn hlk
    have hl0 : H lk = none := (F1.free hlk).resolve_right (by simp [hal])
    have L : H2 lk = some (.lst [V.str "o"]) := F2 _ _ upd_same (by simp [hal])
    replace F1 := (F1.trans (Fr.new hlk)).trans F2
    dsimp only
    refine st_seq (st_obj val_c (val_var rfl) O S.c_Giver S.n_Giver_sent (Nat.le_of_ble_eq_true (by kernel_rfl)) rfl fun H1 O F2 => ?_)
    replace F1 := F1.trans F2
    replace L := F2 _ _ L (by simp [hal])
    dsimp only
    refine st_seq (st_obj val_c (val_var rfl) O S.c_Giver S.n_Giver_reach (Nat.le_of_ble_eq_true (by kernel_rfl)) rfl fun H1 O F2 => ?_)
    replace F1 := F1.trans F2
    replace L := F2 _ _ L (by simp [hal])
    dsimp only
    refine st_seq (st_obj (val_var rfl) (val_var rfl) O S.c_Giver S.n_Giver_pace (Nat.le_of_ble_eq_true (by kernel_rfl)) rfl fun H1 O F2 => ?_)
    replace F1 := F1.trans F2
    replace L := F2 _ _ L (by simp [hal])
    dsimp only
    refine st_seq (st_obj val_c (val_var rfl) O S.c_Giver S.n_Giver_since (Nat.le_of_ble_eq_true (by kernel_rfl)) rfl fun H1 O F2 => ?_)
    replace F1 := F1.trans F2
    replace L := F2 _ _ L (by simp [hal])
    dsimp only
    refine st_seq (st_obj val_c (val_var rfl) O S.c_Giver S.n_Giver_tried (Nat.le_of_ble_eq_true (by kernel_rfl)) rfl fun H1 O F2 => ?_)
    replace F1 := F1.trans F2
    replace L := F2 _ _ L (by simp [hal])
    dsimp only
    refine st_seq (st_obj val_c (val_var rfl) O S.c_Giver S.n_Giver_passed (Nat.le_of_ble_eq_true (by kernel_rfl)) rfl fun H1 O F2 => ?_)
    replace F1 := F1.trans F2
    replace L := F2 _ _ L (by simp [hal])
    dsimp only
    refine st_seq (st_obj val_c (val_var rfl) O S.c_Giver S.n_Giver_finished (Nat.le_of_ble_eq_true (by kernel_rfl)) rfl fun H1 O F2 => ?_)
    replace F1 := F1.trans F2
    replace L := F2 _ _ L (by simp [hal])
    dsimp only
    refine st_obj val_c (val_var rfl) O S.c_Giver S.n_Giver_now (Nat.le_of_ble_eq_true (by kernel_rfl)) rfl fun H1 O F2 => ?_
    replace F1 := F1.trans F2
    replace L := F2 _ _ L (by simp [hal])
    refine k lk H1 hl0 ⟨?_, L⟩ F1
    obtain ⟨dx, e⟩ := O
    refine ⟨dx, e.trans (congrArg (fun z => some (HO.ins _ dx z)) ?_)⟩
    kernel_rfl
end
end SW
end
section
set_option maxRecDepth 100000
set_option maxHeartbeats 4000000
/-! Giver: written, finished. -/
namespace SW
open PySem PySem.Spec PyProof.Rows L2
/-- the items that are no "o", as a comprehension makes them -/
def noO (l : List It) : List V := (l.filter fun i => decide (i ≠ .o)).map It.v
theorem noO_len (l : List It) : (noO l).length = full l := by unfold noO full; rw [List.length_map]
theorem map_get {l : List It} {i : Nat} {x : V} (h : (l.map It.v)[i]? = some x) : ∃ it, l[i]? = some it ∧ x = It.v it := by
  rw [List.getElem?_map] at h
  cases e : l[i]? with
  | none => rw [e] at h; cases h
  | some n => rw [e] at h; exact ⟨n, rfl, (Option.some.inj h).symm⟩
theorem noO_take {l : List It} {i : Nat} {it : It} (h : l[i]? = some it) : noO (l.take (i + 1)) = noO (l.take i) ++ (if decide (it ≠ .o) = true then [It.v it] else []) := by
  unfold noO
  rw [List.take_add_one, h, List.filter_append, List.map_append]
  congr 1
  show (List.filter _ [it]).map It.v = _
  rw [List.filter_cons, List.filter_nil]
  split <;> rfl
theorem full_le (l : List It) : full l ≤ l.length := by unfold full; exact List.length_filter_le _ _
section
variable {P : Program} {w : World} {K : PySem.W.Frag} {mg : Str → Option Value} {base : Heap}
theorem ok_Giver_finish (S : Says K mg)  : Mt P w K mg base 1 "Giver" "finish" ["self"] (spGFinish K) := by
  obtain ⟨fd, F⟩ := S.u_Giver_finish
  have sc : FnScope ["self"] ["self"] (defScope s_Giver_finish) := ⟨rfl, rfl, rfl, by decide +kernel, rfl, by decide +kernel, by decide +kernel⟩
  refine ⟨⟨fd, F.ok sc (fun vs H Q E h => ?_) (fun cdv A outer s H vs Q E hr h => ⟨_, PSs.nox (pss_cons (ps_if (pt_not (pt_val (pe_fld (pv 0) rfl))) (pss_one (ps_expr (pe_bm PySem.F.plainAttrs_list PySem.F.slot_list_append PySem.F.type_list_append mt_append (pe_fld (pv 0) rfl) (pa_cons pe_str pa_nil)))) pss_nil)
      (pss_one (ps_fld (pv 0) pe_bl rfl))), ?_⟩), F.bindsN (fun _ _ _ _ _ _ us hl => match us, hl with | [_], _ => rfl)⟩, S.c_Giver, S.m_Giver_finish⟩
  · obtain ⟨_, _, _, rfl, _⟩ := h
    rfl
  · obtain ⟨a, lk, g, rfl, G, hk, k⟩ := h
    cases hf : g.fin with
    | true =>
      refine sq_no (ans_not (b := true) (ans_val (val_to (val_obj (val_var rfl) G.ob S.c_Giver S.n_Giver_finished gf_finished) (by rw [hf])))) ?_
      dsimp only
      refine st_obj val_c (val_var rfl) G.ob S.c_Giver S.n_Giver_finished gf_few (gp_finished true) fun H' o f => k H' ?_ (f.mono (by simp))
      have e : g.finish = { g with fin := true } := by
        unfold Gv.finish
        rw [hf]
        rfl
      rw [e]
      exact ⟨o, G.kept f⟩
    | false =>
      refine sq_yes (ans_not (b := false) (ans_val (val_to (val_obj (val_var rfl) G.ob S.c_Giver S.n_Giver_finished gf_finished) (by rw [hf])))) ?_
      dsimp only
      refine st_dr (ex_bm (val_obj (val_var rfl) G.ob S.c_Giver S.n_Giver_kept gf_kept) (ty_lst G.kp) (arg_cons val_c arg_nil) ⟨lk, g.kept.map It.v, _, rfl, rfl, G.kp, ?_, ?_⟩)
      · rw [List.length_map, sizeLine_eq]; omega
      have O1 : ObjAt (He.ga K "Giver") (upd H lk (.lst (g.kept.map It.v ++ [V.str "e"]))) a (gf g lk) := G.ob.fr Fr.up (by simp [G.ne])
      refine st_obj val_c (val_var rfl) O1 S.c_Giver S.n_Giver_finished gf_few (gp_finished true) fun H' o f => k H' ?_ ((Fr.up.mono (by simp)).trans (f.mono (by simp)))
      have e : g.finish = { g with fin := true, kept := g.kept ++ [.e] } := by
        unfold Gv.finish
        rw [hf]
        rfl
      rw [e]
      refine ⟨o, ?_⟩
      rw [f _ _ upd_same (by simp [G.ne.symm]), List.map_append]
      rfl
theorem ok_Giver_write (S : Says K mg) (F_is_data : Fn P w K mg base 2 "is_data" ["thing"] spIsData) : Mt P w K mg base 3 "Giver" "write" ["self", "data"] (spGWrite K) := by
  obtain ⟨fd, F⟩ := S.u_Giver_write
  have sc : FnScope ["self", "data", "many", "item"] ["self", "data"] (defScope s_Giver_write) := ⟨rfl, rfl, rfl, by decide +kernel, rfl, by decide +kernel, by decide +kernel⟩
  refine ⟨⟨fd, F.ok sc (fun vs H Q E h => ?_) (fun cdv A outer s H vs Q E hr h => ⟨_, PSs.nox (pss_cons (ps_if (pt_not (pt_val (pe_fn F_is_data (hr.mono (by decide)) (pa_cons (pv 1) pa_nil)))) (pss_one ps_never) pss_nil)
      (pss_cons (ps_if (pt_val (pe_fld (pv 0) rfl)) (pss_one (ps_ret pe_int)) pss_nil)
      (pss_cons (ps_set (i := 2) sc.nd rfl (Or.inl rfl) (pe_callB (call_min2 rfl) rfl S.f_min boot_min (pa_cons (pe_callB call_len rfl S.f_len boot_len (pa_cons (pv 1) pa_nil)) (pa_cons (pe_op op_sub (pe_gi S.i_MOST_KEPT) (pe_callB call_len rfl S.f_len boot_len (pa_cons (pe_lc (own := [("item", 3)]) (g := gName 3) rfl sc.nd (pi_list (pe_fld (pv 0) rfl)) (blkOk_by (own := [("item", 3)]) (N := ["self", "data", "many", "item"]) (sc := defScope s_Giver_write) (by decide +kernel)) (fun _ _ _ _ _ => pg_name (i := 3) sc.nd rfl (Or.inl rfl)) (fun _ _ _ _ _ => pts_one (pt_cmpR op_ne (pv 3) pe_str (nomark _))) (fun _ _ _ _ _ => (pv 3))) pa_nil))) pa_nil))))
      (pss_cons (ps_expr (pe_bm PySem.F.plainAttrs_list PySem.F.slot_list_extend PySem.F.type_list_extend mt_extT (pe_fld (pv 0) rfl) (pa_cons (pe_slice sl_tupA (pv 1) po_none (po_some (pv 2))) pa_nil)))
      (pss_one (ps_ret (pv 2))))))), ?_⟩), F.bindsN (fun _ _ _ _ _ _ us hl => match us, hl with | [_, _], _ => rfl)⟩, S.c_Giver, S.m_Giver_write⟩
  · obtain ⟨_, _, _, _, _, rfl, _⟩ := h
    rfl
  · obtain ⟨a, lk, d, g, ns, rfl, G, hd, hl, hb, hf, hk, k⟩ := h
    have hda : d ≠ a := (G.ob.tup hd).symm
    have hdl : d ≠ lk := ne_of hd G.kp (fun q => nomatch q)
    refine ⟨_, rfl, d, ns, rfl, hd, hl, hb, fun H1 sm => ⟨true, rfl, iteF ?_⟩⟩
    replace G := G.same sm
    replace hd := sm _ _ hd
    dsimp only
    cases hfin : g.fin with
    | true =>
      have em : g.many ns = 0 := by unfold Gv.many; rw [if_pos hfin]
      have ew : g.write ns = g := by unfold Gv.write; rw [em]; simp
      rw [em, ew] at k
      refine sq_yes (ans_val (val_to (val_obj (val_var rfl) G.ob S.c_Giver S.n_Giver_finished gf_finished) (by rw [hfin]))) ?_
      exact k H1 G (Fr.same sm)
    | false =>
      have em : g.many ns = min ns.length (512 - full g.kept) := by unfold Gv.many; rw [if_neg (by rw [hfin]; decide)]
      refine sq_no (ans_val (val_to (val_obj (val_var rfl) G.ob S.c_Giver S.n_Giver_finished gf_finished) (by rw [hfin]))) ?_
      refine sq_as (ex_cbe (ex_c1 (val_len_tup (val_var rfl) (SqT.of hd)) (ex_ce (ex_op1 val_c (ex_cbe (ex_ce ?_))))))
      refine ex_lcl (val_obj (val_var rfl) G.ob S.c_Giver S.n_Giver_kept gf_kept) G.kp (fun D i H' => Same H1 H' ∧ H' D = some (.lst (noO (g.kept.take i)))) (fun D hD => ⟨Same.new hD, upd_same⟩) (fun D i H' _ p => p.1 _ _ G.kp) ?_ ?_
      · rintro D i x H' hD hx ⟨p1, p2⟩
        obtain ⟨it, hit, rfl⟩ := map_get hx
        have hi : i < g.kept.length := (List.getElem?_eq_some_iff.mp hit).1
        refine ⟨rfl, lc_ans (ans_neS (val_var rfl) val_c (it_scal it _) (it_ne_o it)) (fun hb => ?_) (fun hb => ?_)⟩
        · refine ⟨_, rfl, _, p2, ?_, fun b o e => by rw [upd_ne (ne_of_none e hD)]; exact p1 b o e, ?_⟩
          · rw [noO_len, sizeLine_eq]
            have := full_le (g.kept.take i)
            rw [List.length_take] at this
            omega
          · rw [upd_same, noO_take hit, if_pos hb]
        · refine ⟨p1, ?_⟩
          rw [p2, noO_take hit, if_neg (by rw [hb]; decide), List.append_nil]
      · rintro D H2 hD ⟨p1, p2⟩
        rw [List.length_map, List.take_of_length_le (Nat.le_refl _)] at p2
        refine ta_nil ⟨_, _, rfl, .inl ⟨_, SqL.of p2, rfl⟩, ⟨_, _, rfl, rfl, ta_nil ⟨_, _, rfl, ?_⟩⟩⟩
        have hf512 := hf hfin
        have emi : (if (512 : Int) - ((noO g.kept).length : Nat) < ((ns.map nV).length : Nat) then (512 : Int) - ((noO g.kept).length : Nat) else ((ns.map nV).length : Nat)) = (g.many ns : Nat) := by
          rw [em, noO_len, List.length_map]
          split <;> omega
        rw [emi]
        replace G := G.same p1
        replace hd := p1 _ _ hd
        replace sm := sm.trans p1
        refine sq_dr (ex_bme (val_obj (val_var rfl) G.ob S.c_Giver S.n_Giver_kept gf_kept) (ty_lst G.kp) (ex_ce (slt_e (val_var rfl) (po_n (po_v (val_var rfl) (sl_take hd fun b H3 s3 hb3 => ?_))))))
        replace G := G.same s3
        replace sm := sm.trans s3
        refine ⟨lk, b, _, _, rfl, rfl, G.kp, SqT.of hb3, ?_, ?_⟩
        · rw [List.length_map, List.length_take, List.length_map, sizeLine_eq]; omega
        refine st_ret (val_var rfl) (k _ (GiverAt.mk (ObjAt.fr (fs := gf (g.write ns) lk) G.ob Fr.up (by simp [G.ne])) ?_) ((Fr.same sm).trans (Fr.up.mono (by simp))))
        rw [upd_same]
        have ew : (g.write ns).kept = g.kept ++ (ns.take (g.many ns)).map .b := rfl
        rw [ew, List.map_append, List.map_take, List.map_take, List.map_map]
        rfl
end
end SW
end
section
set_option maxRecDepth 100000
set_option maxHeartbeats 4000000
/-! More readings; pairs; the giver's fields stored. -/
namespace SW
open PySem PySem.Spec PyProof.Rows L2
theorem Fr.clean {F F' : List Addr} {H H' : Hp} (f : Fr F' H H') (h : ∀ b ∈ F', b ∈ F ∨ H b = none) : Fr F H H' := fun b o e n => f b o e fun q => by
  rcases h b q with h | h
  · exact n h
  · rw [h] at e; cases e
/-- on with it: the first frame's names grow -/
theorem Fr.on {F F1 F2 : List Addr} {H H1 H2 : Hp} (a : Fr F1 H H1) (b : Fr F2 H1 H2) (h1 : ∀ x ∈ F1, x ∈ F := by simp) (h2 : ∀ x ∈ F2, x ∈ F := by simp) : Fr F H H2 := (a.mono h1).trans (b.mono h2)
theorem upd_at {H : Hp} {a b : Addr} {o o' : HO} (e : H b = some o) (h : H a = none) : upd H a o' b = some o := by rw [upd_ne (ne_of_none e h)]; exact e
section
variable {K : PySem.W.Frag} {σ : L2.St} {H : Hp} {ta tb tc tv : TE} {x y z : V} {i j k : Int} {D : Ends} {u : TS} {a lk : Addr} {g g' : Gv} {f : Str} {Q : VK} {t : TA}
theorem val_min (ha : Val ta σ H (.int i)) (hb : Val tb σ H (.int j)) : Val (tCB (fun xs H Q => ∃ i j, xs = [.int i, .int j] ∧ Q (.int (if j < i then j else i)) H) (tCons ta (tCons tb tNil))) σ H (.int (if j < i then j else i)) := fun Q q => ha _ (hb _ ⟨_, _, rfl, q⟩)
theorem val_max (ha : Val ta σ H (.int i)) (hb : Val tb σ H (.int j)) : Val (tCB (fun xs H Q => ∃ i j, xs = [.int i, .int j] ∧ Q (.int (if j > i then j else i)) H) (tCons ta (tCons tb tNil))) σ H (.int (if j > i then j else i)) := fun Q q => ha _ (hb _ ⟨_, _, rfl, q⟩)
theorem val_min3 (ha : Val ta σ H (.int i)) (hb : Val tb σ H (.int j)) (hc : Val tc σ H (.int k)) : Val (tCB (rNuC3 nuMin3) (tCons ta (tCons tb (tCons tc tNil)))) σ H (.int (if k < (if j < i then j else i) then k else (if j < i then j else i))) := fun Q q => ha _ (hb _ (hc _ ⟨_, _, _, _, rfl, by
  show (nuMin2 (.int i) (.int j)).bind _ = _
  have e : ∀ i j : Int, nuMin2 (.int i) (.int j) = some (.int (if j < i then j else i)) := fun i j => by
    show some (if decide (j < i) = true then V.int j else V.int i) = _
    by_cases c : j < i
    · rw [if_pos (decide_eq_true c), if_pos c]
    · rw [if_neg (by rw [decide_eq_false c]; decide), if_neg c]
  rw [e, Option.bind_some, e], q⟩))
theorem val_sub (ha : Val ta σ H (.int i)) (hb : Val tb σ H (.int j)) : Val (tOp (rI0 fun i j => .int (i - j)) ta tb) σ H (.int (i - j)) := val_rI0 ha hb
theorem val_add (ha : Val ta σ H (.int i)) (hb : Val tb σ H (.int j)) : Val (tOp (rI0 fun i j => .int (i + j)) ta tb) σ H (.int (i + j)) := val_rI0 ha hb
/-- an if that only changes things: the two ways meet at Pj -/
theorem sq_ifJ {c : TT} {t1 t2 : TS} {b : Bool} (h : Ans c σ H b) (Pj : Hp → Prop) (h1 : b = true → ∀ N : L2.St → Hp → Prop, (∀ H', Pj H' → N σ H') → t1 { D with nx := N } σ H) (h2 : b = false → ∀ N : L2.St → Hp → Prop, (∀ H', Pj H' → N σ H') → t2 { D with nx := N } σ H) (q : ∀ H', Pj H' → u D σ H') : tSeq (tIfS c t1 t2) u D σ H := by
  cases b with
  | true => exact sq_yes h (h1 rfl _ q)
  | false => exact h _ (iteF (h2 rfl _ q))
/-- while -/
theorem sq_while {tc : TT} {ts : TS} (W : Nat → L2.St → Hp → Prop) (m : Nat) (w0 : W m σ H)
    (hs : ∀ m σ H, W m σ H → ∃ b, Ans tc σ H b ∧ (b = true → ∀ N : L2.St → Hp → Prop, (∀ m' σ' H', m' < m → W m' σ' H' → N σ' H') → ts { D with nx := N, ct := N, bk := u D } σ H) ∧ (b = false → u D σ H)) : tSeq (tWhile tc ts) u D σ H := by
  refine ⟨W, ⟨m, w0⟩, fun m σ H w => ?_⟩
  obtain ⟨b, ha, h1, h2⟩ := hs m σ H w
  refine ha _ ?_
  cases b with
  | true => exact iteT ⟨_, fun σ' H' n => n, h1 rfl _ fun m' σ' H' l w' => ⟨m', l, w'⟩⟩
  | false => exact iteF (h2 rfl)
theorem st_while2 {tc : TT} {ts : TS} (W : Nat → L2.St → Hp → Prop) (m : Nat) (w0 : W m σ H)
    (hs : ∀ m σ H, W m σ H → ∃ b, Ans tc σ H b ∧ (b = true → ∀ N : L2.St → Hp → Prop, (∀ m' σ' H', m' < m → W m' σ' H' → N σ' H') → ts { D with nx := N, ct := N, bk := D.nx } σ H) ∧ (b = false → D.nx σ H)) : tWhile tc ts D σ H :=
  sq_while (u := fun D σ H => D.nx σ H) W m w0 hs
theorem Same.free {H H' : Hp} (s : Same H H') {r : Addr} (h : H' r = none) : H r = none := by
  cases e : H r with
  | none => rfl
  | some o => rw [s _ _ e] at h; cases h
/-- numbers that are naturals -/
theorem val_nat {n : Int} {m : Nat} (h : Val ta σ H (.int n)) (e : n = (m : Int)) : Val ta σ H (.int m) := e ▸ h
theorem sq_g (hv : Val tv σ H y) (ha : Val ta σ H (.ref a)) (G : GiverAt K H a lk g) (c : Cls K (He.ga K "Giver")) (n : NoAttr K (He.ga K "Giver") f) (e : putF f y (gf g lk) = gf g' lk) (q : ∀ H', GiverAt K H' a lk g' → Fr [a] H H' → u D σ H') (hk : g'.kept = g.kept := by rfl) : tSeq (sFld K ta tv f) u D σ H :=
  sq_obj hv ha G.ob c n gf_few e fun H' o f => q H' ⟨o, by rw [hk]; exact G.kept f⟩ f
theorem st_g (hv : Val tv σ H y) (ha : Val ta σ H (.ref a)) (G : GiverAt K H a lk g) (c : Cls K (He.ga K "Giver")) (n : NoAttr K (He.ga K "Giver") f) (e : putF f y (gf g lk) = gf g' lk) (q : ∀ H', GiverAt K H' a lk g' → Fr [a] H H' → D.nx σ H') (hk : g'.kept = g.kept := by rfl) : sFld K ta tv f D σ H :=
  st_obj hv ha G.ob c n gf_few e fun H' o f => q H' ⟨o, by rw [hk]; exact G.kept f⟩ f
theorem sq_ga {rd : V → V → Hp → VK → Prop} (ha : Val ta σ H (.ref a)) (G : GiverAt K H a lk g) (c : Cls K (He.ga K "Giver")) (n : NoAttr K (He.ga K "Giver") f) (l : (gf g lk).lookup f = some x) (hv : Val tv σ H y) (hr : ∀ Q : VK, Q z H → rd x y H Q) (e : putF f z (gf g lk) = gf g' lk)
    (q : ∀ H', GiverAt K H' a lk g' → Fr [a] H H' → u D σ H') (hk : g'.kept = g.kept := by rfl) : tSeq (sFldAug K ta tv rd f) u D σ H := sq_objaug ha G.ob c n l hv hr gf_few e fun H' o f => q H' ⟨o, by rw [hk]; exact G.kept f⟩ f
theorem st_ga {rd : V → V → Hp → VK → Prop} (ha : Val ta σ H (.ref a)) (G : GiverAt K H a lk g) (c : Cls K (He.ga K "Giver")) (n : NoAttr K (He.ga K "Giver") f) (l : (gf g lk).lookup f = some x) (hv : Val tv σ H y) (hr : ∀ Q : VK, Q z H → rd x y H Q) (e : putF f z (gf g lk) = gf g' lk)
    (q : ∀ H', GiverAt K H' a lk g' → Fr [a] H H' → D.nx σ H') (hk : g'.kept = g.kept := by rfl) : sFldAug K ta tv rd f D σ H := st_objaug ha G.ob c n l hv hr gf_few e fun H' o f => q H' ⟨o, by rw [hk]; exact G.kept f⟩ f
theorem rd_add {Q : VK} (q : Q (.int (i + j)) H) : rAdd (.int i) (.int j) H Q := ⟨i, j, rfl, rfl, q⟩
theorem rd_sub {Q : VK} (q : Q (.int (i - j)) H) : rSub (.int i) (.int j) H Q := ⟨i, j, rfl, rfl, q⟩
/-- a list's slice -/
theorem sl_l {xs : List V} {lo hi : Option Int} (h : H a = some (.lst xs)) (q : ∀ p, H p = none → Q (.ref p) (upd H p (.lst (cutV xs lo hi)))) : rSlL K (.ref a) lo hi H Q := ⟨a, xs, rfl, SqL.of h, q⟩
/-- tuple(l) -/
theorem tup_l {xs : List V} (h : H a = some (.lst xs)) (q : ∀ l, H l = none → Q (.ref l) (upd H l (.tup xs))) : (fun (xs : List V) (H : Hp) (Q : VK) => ∃ p ys, xs = [.ref p] ∧ ((SqL K H p ys ∧ ∀ l, H l = none → Q (.ref l) (upd H l (.tup ys))) ∨ (SqT K H p ys ∧ Q (.ref p) H))) [.ref a] H Q :=
  ⟨a, xs, rfl, .inl ⟨SqL.of h, q⟩⟩
end
/-! ### pairs of a number and items -/
def PairAt (H : Hp) (x : V) (p : Nat × List It) : Prop := ∃ b d, x = .ref b ∧ H b = some (.tup [.int p.1, .ref d]) ∧ H d = some (.tup (p.2.map It.v))
theorem PairAt.fr {F : List Addr} {H H' : Hp} {x : V} {p : Nat × List It} (h : PairAt H x p) (f : Fr F H H') (n : ∀ a ∈ F, ∀ xs, H a ≠ some (.tup xs)) : PairAt H' x p := by
  obtain ⟨b, d, rfl, h1, h2⟩ := h
  exact ⟨b, d, rfl, f _ _ h1 fun q => n _ q _ h1, f _ _ h2 fun q => n _ q _ h2⟩
def All2 {α : Type} (R : V → α → Prop) (xs : List V) (ys : List α) : Prop := xs.length = ys.length ∧ ∀ (i : Nat) (x : V), xs[i]? = some x → ∃ y : α, ys[i]? = some y ∧ R x y
theorem All2.nil {α : Type} {R : V → α → Prop} : All2 R [] [] := ⟨rfl, fun i x h => by rw [List.getElem?_nil] at h; cases h⟩
theorem All2.snoc {α : Type} {R : V → α → Prop} {xs : List V} {ys : List α} (h : All2 R xs ys) {x : V} {y : α} (r : R x y) : All2 R (xs ++ [x]) (ys ++ [y]) := by
  refine ⟨by rw [List.length_append, List.length_append, h.1]; rfl, fun i z e => ?_⟩
  by_cases c : i < xs.length
  · rw [List.getElem?_append_left c] at e
    rw [List.getElem?_append_left (by rw [← h.1]; exact c)]
    exact h.2 i z e
  · rw [List.getElem?_append_right (by omega)] at e
    rw [List.getElem?_append_right (by rw [← h.1]; omega), ← h.1]
    cases e2 : i - xs.length with
    | zero =>
      rw [e2] at e
      exact ⟨y, rfl, by rw [← Option.some.inj e]; exact r⟩
    | succ n => rw [e2] at e; cases e
theorem All2.mono {α : Type} {R R' : V → α → Prop} {xs : List V} {ys : List α} (h : All2 R xs ys) (f : ∀ x y, R x y → R' x y) : All2 R' xs ys := ⟨h.1, fun i x e => by
  obtain ⟨y, e2, r⟩ := h.2 i x e
  exact ⟨y, e2, f _ _ r⟩⟩
theorem All2.drop {α : Type} {R : V → α → Prop} {xs : List V} {ys : List α} (h : All2 R xs ys) (n : Nat) : All2 R (xs.drop n) (ys.drop n) := ⟨by rw [List.length_drop, List.length_drop, h.1], fun i x e => by
  rw [List.getElem?_drop] at e ⊢
  exact h.2 _ _ e⟩
theorem All2.append {α : Type} {R : V → α → Prop} {xs xs2 : List V} {ys ys2 : List α} (h : All2 R xs ys) (h2 : All2 R xs2 ys2) : All2 R (xs ++ xs2) (ys ++ ys2) := by
  refine ⟨by rw [List.length_append, List.length_append, h.1, h2.1], fun i z e => ?_⟩
  by_cases c : i < xs.length
  · rw [List.getElem?_append_left c] at e
    rw [List.getElem?_append_left (by rw [← h.1]; exact c)]
    exact h.2 i z e
  · rw [List.getElem?_append_right (by omega)] at e
    rw [List.getElem?_append_right (by rw [← h.1]; omega), ← h.1]
    exact h2.2 _ z e
theorem All2.eraseIdx {α : Type} {R : V → α → Prop} {xs : List V} {ys : List α} (h : All2 R xs ys) (n : Nat) : All2 R (xs.eraseIdx n) (ys.eraseIdx n) := by
  rw [List.eraseIdx_eq_take_drop_succ, List.eraseIdx_eq_take_drop_succ]
  refine All2.append ⟨by rw [List.length_take, List.length_take, h.1], fun i x e => ?_⟩ (h.drop _)
  rw [List.getElem?_take] at e ⊢
  by_cases c : i < n
  · rw [if_pos c] at e ⊢
    exact h.2 i x e
  · rw [if_neg c] at e
    cases e
def PairsAt (H : Hp) (r : Addr) (ps : List (Nat × List It)) : Prop := ∃ xs, H r = some (.lst xs) ∧ All2 (PairAt H) xs ps
theorem PairsAt.fr {F : List Addr} {H H' : Hp} {r : Addr} {ps : List (Nat × List It)} (h : PairsAt H r ps) (f : Fr F H H') (n : ∀ a ∈ F, ∀ xs, H a ≠ some (.tup xs)) (hr : r ∉ F) : PairsAt H' r ps := by
  obtain ⟨xs, h1, h2⟩ := h
  exact ⟨xs, f _ _ h1 hr, h2.mono fun x p q => q.fr f n⟩
theorem ObjAt.nt {C : Addr} {H : Hp} {a : Addr} {fs : List (Str × V)} (h : ObjAt C H a fs) : ∀ xs, H a ≠ some (.tup xs) := fun xs e => by
  obtain ⟨dx, h⟩ := h
  rw [h] at e
  cases e
end SW
end
section
set_option maxRecDepth 100000
set_option maxHeartbeats 4000000
/-! enumerate over a tuple. -/
namespace SW
open PySem PySem.Spec PyProof.Rows L2
theorem meets_enumT (l : Addr) (items : Array Value) (n : Nat) (dct : Option Addr) (sl : Array (Option Value)) :
    Meets (Builtin.«enumerate.__new__» ⟨[.type "enumerate", .ref l], []⟩) (fun _ R s => s.heap.get? l = some { cls := .type "tuple", dict := dct, data := .seq items n, slots := sl } ∧
      R (.ok (.ret (.ref (s.heap.push { cls := .type "tuple_iterator", data := .fields #[.ref l, .int 0 0] }).objs.size)))
        { s with heap := (s.heap.push { cls := .type "tuple_iterator", data := .fields #[.ref l, .int 0 0] }).push { cls := .type "enumerate", data := .fields #[.none, .bool false, .ref s.heap.objs.size, rawInt 0, .none, .none] } }) :=
  .of_wp fun prog w A R s h => by
    obtain ⟨hp, g, d, tk, os⟩ := s
    obtain ⟨hl, h⟩ := h
    have f1 := sub_enumerate
    have hT : Heap.IsTuple (Shared.heap ⟨hp, g, d, tk, os⟩) l items := ⟨_, hl, rfl, n, rfl⟩
    wp_walk using AutoSeq1.wpAny_loadPart' hl
    refine wpAny_stack_any fun st => wpAny_pure ?_
    split
    · rename_i c _ _ _ _ _
      cases (c == Value.type "enumerate")
      all_goals
        wp_walk using AutoSeq1.wpAny_loadPart' hl, wpAny_pyIter_tuple hT
        exact ⟨_, rfl, h⟩
    · wp_walk using AutoSeq1.wpAny_loadPart' hl, wpAny_pyIter_tuple hT
      exact ⟨_, rfl, h⟩
section
variable {prog : Program} {w : World} {A : Around} {E : Value → Shared → Prop} {s : Shared}
theorem call_enumT {l : Addr} {items : Array Value} {Q : Value → Shared → Prop} (hL : s.heap.IsTuple l items)
    (h : ∀ h', IsEnum h' (s.heap.objs.size + 1) s.heap.objs.size 0 .none → h'.IsTupleIter s.heap.objs.size l 0 → h'.objs.size = s.heap.objs.size + 2 →
      (∀ b o, s.heap.get? b = some o → h'.get? b = some o) → Q (.ref (s.heap.objs.size + 1)) { s with heap := h' }) :
    wpAny (model prog w) A (call (.type "enumerate") [.ref l]) Q E s := by
  obtain ⟨⟨c, dct, dt, sl⟩, hl, hc, n, hd⟩ := hL
  cases (show c = .type "tuple" from hc)
  cases (show dt = .seq items n from hd)
  refine callType_new F.called_enumerate (by decide) (F.typeCall_enumerate_1 _) (F.newCall_enumerate_1 _) (fun obj => F.args_object_init_2 obj _) F.entry_enumerate_new (meets_enumT l items n dct sl) ⟨hl, ?_⟩
  have hz : (s.heap.push { cls := .type "tuple_iterator", data := .fields #[.ref l, .int 0 0] }).objs.size = s.heap.objs.size + 1 := Heap.size_push ..
  show _ ∧ _
  rw [hz]
  have he : IsEnum ((s.heap.push { cls := .type "tuple_iterator", data := .fields #[.ref l, .int 0 0] }).push { cls := .type "enumerate", data := .fields #[.none, .bool false, .ref s.heap.objs.size, rawInt 0, .none, .none] }) (s.heap.objs.size + 1) s.heap.objs.size 0 .none := by
    have := Heap.get?_push_size (s.heap.push { cls := .type "tuple_iterator", data := .fields #[.ref l, .int 0 0] }) (o := { cls := .type "enumerate", data := .fields #[.none, .bool false, .ref s.heap.objs.size, rawInt 0, .none, .none] }) rfl
    rw [hz] at this
    exact this
  refine ⟨⟨_, he, rfl⟩, h _ he ⟨_, Heap.get?_push_of_some _ (Heap.get?_push_size _ rfl), rfl, rfl⟩ (by rw [Heap.size_push, hz]) fun b o x => Heap.get?_push_of_some _ (Heap.get?_push_of_some _ x)⟩
end
def Itn (K : PySem.W.Frag) (a : Addr) : L2.It :=
  ⟨fun i H => ∃ (xs : List V) (x : V), SqT K H a xs ∧ xs[i]? = some x, fun i H v H' => ∃ T x, v = .ref T ∧ H T = none ∧ H' = upd H T (.tup [.int (i : Nat), x]) ∧ ∀ xs, SqT K H a xs → xs[i]? = some x, fun i H => ∃ xs : List V, SqT K H a xs ∧ xs.length = i⟩
theorem turn_enumT {P : Program} {w : World} {K : PySem.W.Frag} {elts : List Expr} {kk : Nat} {tpos : Pos} (a e it : Addr) :
    Turn P w K (.Tuple elts kk tpos) (Itn K a) [e, it] e (fun i h => (∃ old, IsEnum h e it ((i : Nat) : Int) old) ∧ h.IsTupleIter it a i ∧ e ≠ it) where
  mem := by simp
  obj := fun i h st b hb => by
    obtain ⟨⟨old, he⟩, ⟨o, ho, hc, hd⟩, _⟩ := st
    rcases (show b = e ∨ b = it by simpa using hb) with z | z
    · rw [z]; exact ⟨_, he, fun v q => nomatch q⟩
    · rw [z]; exact ⟨o, ho, fun v q => by rw [hd] at q; cases q⟩
  keep := fun i h h' st k => let ⟨⟨old, he⟩, hi, hne⟩ := st; ⟨⟨old, k e (by simp) _ he⟩, hi.at fun o q => k it (by simp) o q, hne⟩
  item := by
    intro X hP hw hK hc i pins s σ H E I hf st hg
    subst hP hw hK
    obtain ⟨⟨old, he⟩, hit, hne⟩ := st
    obtain ⟨xs, x, hq, hx⟩ := hg
    obtain ⟨its, rv, p, hz⟩ := I.tuple hq
    obtain ⟨u, hu, ru⟩ := rv.get hx
    have hel : e < s.heap.objs.size := Heap.lt_size he
    have hil : it < s.heap.objs.size := by obtain ⟨_, q, _⟩ := hit; exact Heap.lt_size q
    have hai : a ≠ it := fun q => by
      obtain ⟨o, ho, hc1, hd1⟩ := hit
      obtain ⟨o2, ho2, hc2, _⟩ := (show s.heap.IsTuple a its.toArray from p)
      rw [q, ho] at ho2
      cases ho2
      rw [hc1] at hc2
      exact absurd (Value.type.inj hc2) (by decide)
    have hea : e ≠ a := fun q => by
      obtain ⟨o2, ho2, hc2, _⟩ := (show s.heap.IsTuple a its.toArray from p)
      rw [← q, show s.heap.get? e = _ from he] at ho2
      cases ho2
      exact absurd (Value.type.inj hc2) (by decide)
    refine wpAny_pyNext_enum_itemD (Draws.tuple (A := X.A.in1) (I.ok.hd hc) it a hai its.toArray) he ⟨hit, p⟩ (by rw [List.size_toArray]; exact (List.getElem?_eq_some_iff.mp hu).1) hne (by simp [hea, hne]) fun x' h' tk hx' ho hit' hT hsz hk => ?_
    have hxu : x' = u := by
      have : its[i]? = some x' := by simpa using hx'
      rw [hu] at this
      exact (Option.some.inj this).symm
    subst hxu
    refine ⟨_, rfl, wpAny_letOwnedTupleGo_enum (s := { s with heap := h', toks := tk + 1 }) ho fun h'' he' sb => ?_⟩
    have hT2 : h''.get? s.heap.objs.size = some { cls := .type "tuple", data := .seq #[.int i tk, x'] } := (sb.2 _ (Nat.ne_of_gt hel)).trans hT
    have new : ObjOk X.prog X.w (upd H s.heap.objs.size (.tup [.int (i : Nat), x])) h'' s.heap.objs.size (.tup [.int (i : Nat), x]) :=
      ⟨by show 2 ≤ sizeLine; decide, [.int i tk, x'], .cons ⟨_, rfl⟩ (.cons ru .nil), ⟨_, hT2, rfl, _, rfl⟩⟩
    have I1 : Inv X pins σ (upd H s.heap.objs.size (.tup [.int (i : Nat), x])) { s with heap := h'', toks := tk + 1 } :=
      I.turnedNew (ch := [e, it]) (fun b ob hb q => (sb.2 b (fun z => hb (by simp [z]))).trans (hk b ob (fun z => hb (by simp [z])) (fun z => hb (by simp [z])) q)) hf (Nat.le_refl _) new
    refine ⟨.ref s.heap.objs.size, _, I1, rfl, ⟨_, x, rfl, I.hok.fresh (Nat.le_refl _), rfl, fun ys hy => by rw [I.tuple_inj hy hq]; exact hx⟩, ⟨⟨x', ?_⟩, hit'.1.at fun o q => (sb.2 it (Ne.symm hne)).trans q, hne⟩, fun b hb => ?_⟩
    · have e1 : ((i + 1 : Nat) : Int) = (i : Int) + 1 := by omega
      rw [e1]; exact he'
    · have hb' : b < s.heap.objs.size := by
        rcases (show b = e ∨ b = it by simpa using hb) with z | z
        · rw [z]; exact hel
        · rw [z]; exact hil
      rw [upd_ne (Nat.ne_of_lt hb')]
      exact (hf b hb).1
  done := by
    intro X hP hw hK hc i pins s σ H E I hf st hg
    subst hP hw hK
    obtain ⟨⟨old, he⟩, hit, hne⟩ := st
    obtain ⟨xs, hq, hx⟩ := hg
    obtain ⟨its, rv, p, hz⟩ := I.tuple hq
    obtain ⟨f0, f1, f2, f3, f4, f5⟩ := hf it (by simp)
    have hl := rv.length
    have hai : a ≠ it := fun q => by
      obtain ⟨o, ho, hc1, hd1⟩ := hit
      obtain ⟨o2, ho2, hc2, _⟩ := (show s.heap.IsTuple a its.toArray from p)
      rw [q, ho] at ho2
      cases ho2
      rw [hc1] at hc2
      exact absurd (Value.type.inj hc2) (by decide)
    have hi : its.toArray.size = i := by rw [List.size_toArray]; omega
    exact wpAny_pyNext_enum_endD (Draws.tuple (A := X.A.in1) (I.ok.hd hc) it a hai its.toArray) he (by rw [hi]; exact ⟨hit, p⟩) fun h' eb => ⟨rfl, I.turned (t' := s.toks) (fun b o hb q => eb b o hb q) f0 f1 f3 f4 f5⟩
  self := fun A i s Q E st h => let ⟨⟨_, he⟩, _⟩ := st; wpAny_pyIter_enum he h
def iEnumT (K : PySem.W.Frag) (ta : TA) : TI := fun σ H R => ta σ H fun vs H1 => ∃ a xs, vs = [.ref a] ∧ SqT K H1 a xs ∧ R (Itn K a) H1
theorem pi_enumT {X : Cx} {e : Expr} {ta : TA} {p pos tpos : Pos} {elts : List Expr} {kk : Nat} (hg : Gl X "enumerate") (hm : X.mg "enumerate" = none) (ha : PA X [e] ta) (hs : starEach [e] X.env = [(false, eval e X.env)] := by rfl) :
    PI X (.Tuple elts kk tpos) (.Call (.Name "enumerate" p) [e] [] pos) (iEnumT X.K ta) := by
  refine ⟨fun pins s σ H R I h => ?_⟩
  refine Call_ (ld_blt I hg hm boot_enumerate (PyProof.Rows.callWith_type1 (thn (ha.run pos pins s σ H _ I h) fun us s1 ⟨vs, H1, I1, r1, q1⟩ => ?_) hs rfl))
  obtain ⟨a, xs, ex, hq, q⟩ := q1
  subst ex
  cases r1 with
  | cons r rr =>
    cases rr
    cases r
    obtain ⟨its, rv, p', hz⟩ := I1.tuple hq
    refine call_enumT (show s1.heap.IsTuple a its.toArray from p') fun h' he hit hsz hk => wpAny_pyIter_enum he ?_
    have I2 : Inv X pins σ H1 { s1 with heap := h' } := I1.kept (t' := s1.toks) hk
    refine ⟨s1.heap.objs.size + 1, [s1.heap.objs.size + 1, s1.heap.objs.size], _, _, H1, rfl, I2, turn_enumT a (s1.heap.objs.size + 1) s1.heap.objs.size, ⟨⟨.none, he⟩, hit, Nat.succ_ne_self _⟩, fun b hb => ?_, q⟩
    have hle : s1.heap.objs.size ≤ b := by
      rcases (show b = s1.heap.objs.size + 1 ∨ b = s1.heap.objs.size by simpa using hb) with z | z
      · rw [z]; exact Nat.le_add_right _ _
      · rw [z]; exact Nat.le_refl _
    exact I1.fpOk hle (I1.hok.fresh hle)
theorem walk_enumT {K : PySem.W.Frag} {a : Addr} {xs : List V} : Walk (Itn K a) xs.length (fun H => SqT K H a xs) (fun i H v H' => ∃ T x, v = .ref T ∧ H T = none ∧ H' = upd H T (.tup [.int (i : Nat), x]) ∧ xs[i]? = some x) :=
  ⟨fun i H hi g => ⟨xs, _, g, List.getElem?_eq_getElem hi⟩, fun H g => ⟨xs, g, rfl⟩, fun i H v H' hi g y => by
    obtain ⟨T, x, e1, e2, e3, e4⟩ := y
    exact ⟨T, x, e1, e2, e3, e4 xs g⟩⟩
end SW
end
section
set_option maxRecDepth 100000
set_option maxHeartbeats 4000000
/-! Tests and values that make something on the way; tuples joined; a sign kept. -/
namespace SW
open PySem PySem.Spec PyProof.Rows L2
theorem ip_addS {X : Cx} : PIp X .Add (fun x y H Q => ∃ i j, x = .str i ∧ y = .str j ∧ i.length + j.length ≤ sizeLine ∧ Q (.str (i ++ j)) H) := fun pins s σ H x y v u Q I r1 r2 h => iop_add_str pins s σ H x y v u Q I r1 r2 h
section
variable {X : Cx} {k : Nat} {x c m f : Str} {ps : List Str} {sp : Sp} {e : Expr} {es : List Expr} {t : TA} {ta : TE} {p pos apos : Pos}
/-- within a comprehension: the facts' own name for what a block keeps -/
theorem pe_fldK (K : PySem.W.Frag) (he : PE X e ta) (hb : attributeBase e f X.env (eval e X.env) = eval e X.env) (hK : X.K = K := by rfl) : PE X (.Attribute e f pos) (tFld K ta f) := hK ▸ pe_fld he hb
theorem op_in_seqK (K : PySem.W.Frag) (hK : X.K = K := by rfl) : OpR X (compareOp .In) (rIn K false) := hK ▸ op_in_seq
theorem op_notIn_seqK (K : PySem.W.Frag) (hK : X.K = K := by rfl) : OpR X (compareOp .NotIn) (rIn K true) := hK ▸ op_notIn_seq
theorem pe_mtK (K : PySem.W.Frag) {o : Expr} {pl : Sem Bool} (ho : PE X o ta) (F : Mt X.prog X.w X.K X.mg X.base k c m ps sp) (hr : Room k X.A) (ha : PA X (e :: es) t)
    (hst : starEach (e :: es) X.env = (false, eval e X.env) :: starEach es X.env := by rfl) (hpl : (backTo pos (starEach es X.env)).any (·.1) = false := by rfl)
    (ht : eval (.Call (.Attribute o m apos) (e :: es) [] pos) X.env = (do
      let ov ← eval o X.env
      standAt apos.atName
      let (f, first) ← holding [ov] (getMethod ov m pl)
      callWith pos f first (backTo pos (starEach (e :: es) X.env)) (backToKw pos (keywordEach [] X.env))) := by rfl) (hK : X.K = K := by rfl) : PE X (.Call (.Attribute o m apos) (e :: es) [] pos) (tMeth (He.ga K c) m sp [] E0 ta t) := hK ▸ pe_mt ho F hr ha hst hpl ht
theorem pg_tupK (K : PySem.W.Frag) {n : Nat} {kk : Nat} {tt : TGs} (hc : X.calm = true) (h : PGs X es tt) (hn : (assignEach es X.env).length = n := by rfl) (hst : (assignEach es X.env).findIdx? (·.1) = none := by rfl) (hK : X.K = K := by rfl) : PG X (.Tuple es kk pos) (gTup K n tt) := hK ▸ pg_tup hc h hn hst
end
def AnsS (c : TT) (σ : L2.St) (H : Hp) (b : Bool) : Prop := ∀ Q : Bool → Hp → Prop, (∀ H', Same H H' → Q b H') → c σ H Q
def ValS (te : TE) (σ : L2.St) (H : Hp) (v : V) : Prop := ∀ Q : VK, (∀ H', Same H H' → Q v H') → te σ H Q
section
variable {K : PySem.W.Frag} {σ : L2.St} {H : Hp} {ta te : TE} {c t u : TT} {b b' : Bool} {v : V} {vs : List V} {ts u2 t1 : TS} {D : Ends} {tt : TA} {sp : Sp} {Q : VK} {a a2 : Addr} {xs ys : List V}
theorem Ans.mk_s (h : Ans c σ H b) : AnsS c σ H b := fun Q q => h _ (q H (Same.refl H))
theorem anss_val (h : ValS ta σ H (.bl b)) : AnsS (tB ta) σ H b := fun Q q => h _ fun H' s => ⟨b, rfl, q H' s⟩
theorem anss_not (h : AnsS t σ H b) : AnsS (tNot t) σ H (!b) := fun Q q => h _ fun H' s => q H' s
theorem anss_or (h1 : AnsS t σ H false) (h2 : ∀ H', Same H H' → AnsS u σ H' b) : AnsS (tOr t u) σ H b := fun Q q => h1 _ fun H' s => iteF (h2 H' s _ fun H2 s2 => q H2 (s.trans s2))
theorem sq_noS (h : AnsS c σ H false) (q : ∀ H', Same H H' → u2 D σ H') : tSeq (tIfS c t1 tNext) u2 D σ H := h _ fun H' s => iteF (q H' s)
theorem vals_fn (hv : ArgV tt σ H vs) (q : ∀ Q : VK, (∀ H', Same H H' → Q v H') → sp (vs ++ []) H Q E0) : ValS (tCall sp [] E0 tt) σ H v := fun Q h => hv _ (q Q h)
theorem ans_le {g : Int → Int → V} {ta tb : TE} {i j : Int} (ha : Val ta σ H (.int i)) (hb : Val tb σ H (.int j)) (h : g i j = .bl b) : AnsS (tTest (tOp (rI0 g) ta tb)) σ H b := Ans.mk_s (ans_rI0 ha hb h)
/-- tuples joined -/
theorem cat_t (ha : H a = some (.tup xs)) (hb : H a2 = some (.tup ys)) (hz : xs.length + ys.length ≤ sizeLine) (q : ∀ p H', Same H H' → H' p = some (.tup (xs ++ ys)) → Q (.ref p) H') : rCatA K (.ref a) (.ref a2) H Q := by
  refine ⟨a, a2, xs, ys, rfl, rfl, SqT.of ha, SqT.of hb, hz, fun e => ?_, fun e1 e2 => ?_, fun e1 e2 p hp => ?_⟩
  · exact q _ H (Same.refl H) (by rw [hb, e, List.nil_append])
  · exact q _ H (Same.refl H) (by rw [ha, e2, List.append_nil])
  · exact q p _ (Same.new hp) upd_same
/-- a sign kept or not: [z for z in "m" if ..] -/
theorem ex_lc1 {z : Str} {m j : Nat} {ws : List Nat} (hz : z.cps = #[m]) (hs : ∀ H', Same H H' → wipe ((wipe σ ws).set j (some (.str ⟨#[m]⟩))) ws = wipe σ ws ∧ Ans t ((wipe σ ws).set j (some (.str ⟨#[m]⟩))) H' b ∧ Val te ((wipe σ ws).set j (some (.str ⟨#[m]⟩))) H' (.str ⟨#[m]⟩))
    (q : ∀ D H', Same H H' → H' D = some (.lst (if b = true then [.str ⟨#[m]⟩] else [])) → Q (.ref D) H') : tLc (iStr (tC (.str z))) (gName j) t te ws σ H Q := by
  refine ⟨_, rfl, fun D hD => ?_⟩
  refine lc_it walk_str (fun i H' => Same H H' ∧ H' D = some (.lst (if i = 0 then [] else if b = true then [.str ⟨#[m]⟩] else []))) ⟨Same.new hD, upd_same⟩ (fun _ _ _ _ => trivial) ?_ ?_
  · rintro i x H1 H2 hi ⟨p1, p2⟩ ⟨rfl, m', hm, rfl⟩
    rw [hz] at hi hm
    have hi0 : i = 0 := by exact Nat.lt_one_iff.mp hi
    subst hi0
    cases (show m = m' from Option.some.inj hm)
    obtain ⟨w, h1, h2⟩ := hs _ p1
    refine ⟨w, lc_ans h1 (fun hb => h2 _ ?_) (fun hb => ?_)⟩
    · refine ⟨[], p2, by show 0 < sizeLine; decide, fun b o e => by rw [upd_ne (ne_of_none e hD)]; exact p1 b o e, ?_⟩
      rw [upd_same, if_neg (by omega), if_pos hb]
      rfl
    · refine ⟨p1, ?_⟩
      rw [p2, hb]
      rfl
  · rintro H' ⟨p1, p2⟩
    refine q D H' p1 ?_
    rw [p2, hz]
    rfl
theorem ex_ifT {tb : TE} (h : Ans c σ H true) (q : ta σ H Q) : tIf c ta tb σ H Q := h _ (iteT q)
theorem ex_ifF {tb : TE} (h : Ans c σ H false) (q : tb σ H Q) : tIf c ta tb σ H Q := h _ (iteF q)
theorem st_tup {g : TG} (q : te σ H fun v H1 => g v σ H1 D.nx) : tAsg te g D σ H := q
/-- an object made -/
theorem ex_make {C : Addr} (hv : ArgV tt σ H vs) (q : ∀ x dx, H x = none → H dx = none → dx ≠ x → sp (.ref x :: (vs ++ [])) (upd (upd H dx (.own x)) x (.ins C dx [])) (fun v H2 => v = .non ∧ Q (.ref x) H2) E0) : tMake C sp [] E0 tt σ H Q := hv _ fun x dx h1 h2 h3 => q x dx h1 h2 h3
theorem Same.made {H : Hp} {x dx C : Addr} (h1 : H x = none) (h2 : H dx = none) (h3 : dx ≠ x) : Same H (upd (upd H dx (.own x)) x (.ins C dx [])) := (Same.new h2).trans (Same.new (by rw [upd_ne h3.symm]; exact h1))
theorem Fr.same1 {H H1 : Hp} {x : Addr} (f : Fr [x] H H1) (h : H x = none) : Same H H1 := fun b o e => f b o e (by simp [ne_of_none e h])
theorem ex_mte {C : Addr} {m : Str} {fs : List (Str × V)} (ha : Val ta σ H (.ref a)) (h : ObjAt C H a fs) (hn : fs.lookup m = none) (q : tt σ H fun vs H2 => sp (.ref a :: (vs ++ [])) H2 Q E0) : tMeth C m sp [] E0 ta tt σ H Q := by
  obtain ⟨dx, h⟩ := h
  exact ha _ ⟨a, dx, fs, rfl, h, hn, q⟩
/-- a pair taken apart -/
theorem g2 {x y : V} {i j : Nat} {Q2 : L2.St → Hp → Prop} (h : H a = some (.tup [x, y])) (q : Q2 ((σ.set i (some x)).set j (some y)) H) : gTup K 2 (gCons (gName i) (gCons (gName j) gNil)) (.ref a) σ H Q2 := ⟨a, _, rfl, SqT.of h, rfl, x, _, rfl, y, _, rfl, rfl, q⟩
theorem sq_tup {g : TG} (q : te σ H fun v H1 => g v σ H1 (u2 D)) : tSeq (tAsg te g) u2 D σ H := q
/-- dicts keyed by numbers or texts -/
theorem val_din {kvs : List (Key × V)} {k : Key} {y : V} (hy : Val te σ H y) (ha : Val ta σ H (.ref a)) (h : H a = some (.dK kvs)) (e : y = kV k) : Val (tDIn te ta) σ H (.bl (valV kvs k).isSome) := fun Q q => hy _ (ha _ ⟨a, _, rfl, by rw [e]; exact DGet.k h, q⟩)
theorem val_dnin {kvs : List (Key × V)} {k : Key} {y : V} (hy : Val te σ H y) (ha : Val ta σ H (.ref a)) (h : H a = some (.dK kvs)) (e : y = kV k) : Val (tDNotIn te ta) σ H (.bl (!(valV kvs k).isSome)) := fun Q q => hy _ (ha _ ⟨a, _, rfl, by rw [e]; exact DGet.k h, q⟩)
theorem val_dget {kvs : List (Key × V)} {k : Key} {y : V} (ha : Val ta σ H (.ref a)) (hy : Val te σ H y) (h : H a = some (.dK kvs)) (e : y = kV k) (hv : valV kvs k = some v) : Val (tDGet ta te) σ H v := fun Q q => ha _ (hy _ ⟨a, v, rfl, by rw [e, ← hv]; exact DGet.k h, q⟩)
theorem st_dput {tv : TE} {kvs : List (Key × V)} {k : Key} {y : V} (hv : Val tv σ H v) (ha : Val ta σ H (.ref a)) (hy : Val te σ H y) (h : H a = some (.dK kvs)) (e : y = kV k) (hl : kvs.length < sizeLine) (q : D.nx σ (upd H a (.dK (putK kvs k v)))) : sDPut ta te tv D σ H := hv _ (ha _ (hy _ ⟨a, _, rfl, by rw [e]; exact DPut.k h hl, q⟩))
theorem sq_dput {tv : TE} {kvs : List (Key × V)} {k : Key} {y : V} (hv : Val tv σ H v) (ha : Val ta σ H (.ref a)) (hy : Val te σ H y) (h : H a = some (.dK kvs)) (e : y = kV k) (hl : kvs.length < sizeLine) (q : u2 D σ (upd H a (.dK (putK kvs k v)))) : tSeq (sDPut ta te tv) u2 D σ H := st_dput (D := { D with nx := u2 D }) hv ha hy h e hl q
theorem ex_dpop {kvs : List (Key × V)} {k : Key} {y : V} (ha : Val ta σ H (.ref a)) (hy : Val te σ H y) (h : H a = some (.dK kvs)) (e : y = kV k) (hv : valV kvs k = some v) (q : Q v (upd H a (.dK (dropK kvs k)))) : tDPop1 ta te σ H Q := ha _ ⟨a, rfl, .inl ⟨_, .of h⟩, hy _ ⟨kvs, k, v, h, e, hv, q⟩⟩
/-! ### for -/
theorem sq_enum {g : TG} {tb : TS} (hv : Val te σ H (.ref a)) (h : H a = some (.tup xs)) (Pv : Nat → L2.St → Hp → Prop) (h0 : Pv 0 σ H) (hG : ∀ i σ H, i ≤ xs.length → Pv i σ H → H a = some (.tup xs))
    (hs : ∀ i x σ H T, i < xs.length → xs[i]? = some x → Pv i σ H → H T = none → g (.ref T) σ (upd H T (.tup [.int (i : Nat), x])) fun σ2 H2 => tb { D with nx := Pv (i + 1), ct := Pv (i + 1), bk := u2 D } σ2 H2)
    (hd : ∀ σ H, Pv xs.length σ H → u2 D σ H) : tSeq (tFor (iEnumT K (tCons te tNil)) g tb) u2 D σ H :=
  hv _ ⟨a, xs, rfl, SqT.of h, for_it (D := { D with nx := u2 D }) walk_enumT Pv h0 (fun i σ H hi p => SqT.of (hG i σ H hi p)) (fun i x σ H H' hi p y => by
    obtain ⟨T, z, rfl, hT, rfl, hz⟩ := y
    exact hs i z σ H T hi hz p hT) hd⟩
theorem sq_forL {g : TG} {tb : TS} (hv : Val te σ H (.ref a)) (h : H a = some (.lst xs)) (Pv : Nat → L2.St → Hp → Prop) (h0 : Pv 0 σ H) (hG : ∀ i σ H, i ≤ xs.length → Pv i σ H → H a = some (.lst xs))
    (hs : ∀ i x σ H, i < xs.length → xs[i]? = some x → Pv i σ H → g x σ H fun σ2 H2 => tb { D with nx := Pv (i + 1), ct := Pv (i + 1), bk := u2 D } σ2 H2)
    (hd : ∀ σ H, Pv xs.length σ H → u2 D σ H) : tSeq (tFor (iList K te) g tb) u2 D σ H :=
  hv _ ⟨a, rfl, ⟨xs, SqL.of h⟩, for_list (D := { D with nx := u2 D }) Pv h0 (fun i σ H hi p => SqL.of (hG i σ H hi p)) (fun i x σ H hx p => hs i x σ H (List.getElem?_eq_some_iff.mp hx).1 hx p) hd⟩
theorem sq_forT {g : TG} {tb : TS} (hv : Val te σ H (.ref a)) (h : H a = some (.tup xs)) (Pv : Nat → L2.St → Hp → Prop) (h0 : Pv 0 σ H) (hG : ∀ i σ H, i ≤ xs.length → Pv i σ H → H a = some (.tup xs))
    (hs : ∀ i x σ H, i < xs.length → xs[i]? = some x → Pv i σ H → g x σ H fun σ2 H2 => tb { D with nx := Pv (i + 1), ct := Pv (i + 1), bk := u2 D } σ2 H2)
    (hd : ∀ σ H, Pv xs.length σ H → u2 D σ H) : tSeq (tFor (iTup K te) g tb) u2 D σ H :=
  hv _ ⟨a, rfl, ⟨xs, SqT.of h⟩, for_tup (D := { D with nx := u2 D }) Pv h0 (fun i σ H hi p => SqT.of (hG i σ H hi p)) (fun i x σ H hx p => hs i x σ H (List.getElem?_eq_some_iff.mp hx).1 hx p) hd⟩
theorem sq_rng1 {g : TG} {tb : TS} {n : Nat} (hv : Val te σ H (.int n)) (hn : n < 1000000) (Pv : Nat → L2.St → Hp → Prop) (h0 : Pv 0 σ H)
    (hs : ∀ i σ H, i < n → Pv i σ H → g (.int (i : Nat)) σ H fun σ2 H2 => tb { D with nx := Pv (i + 1), ct := Pv (i + 1), bk := u2 D } σ2 H2)
    (hd : ∀ σ H, Pv n σ H → u2 D σ H) : tSeq (tFor (iRng1 (tCons te tNil)) g tb) u2 D σ H :=
  hv _ ⟨n, rfl, by omega, by omega, for_it (D := { D with nx := u2 D }) walk_range Pv h0 (fun _ _ _ _ _ => trivial) (fun i x σ H H' hi p y => by
    obtain ⟨rfl, rfl⟩ := y
    show g (.int (0 + (i : Nat))) σ H' _
    rw [show (0 : Int) + (i : Nat) = (i : Nat) by omega]
    exact hs i σ H' (by have : (n : Int).toNat = n := Int.toNat_natCast n; omega) p) (fun σ H p => hd σ H (by rwa [Int.toNat_natCast] at p))⟩
end
end SW
end
section
set_option maxRecDepth 100000
set_option maxHeartbeats 4000000
/-! Segments. -/
namespace SW
open PySem PySem.Spec PyProof.Rows L2
structure SegU (K : PySem.W.Frag) (H : Hp) (a u : Addr) (s : Sg) : Prop where
  ob : ObjAt (He.ga K "Segment") H a (sf s u)
  da : H u = some (.tup (s.data.map nV))
def SegAt (K : PySem.W.Frag) (H : Hp) (x : V) (s : Sg) : Prop := ∃ a u, x = .ref a ∧ SegU K H a u s
/-- numbers in their ranges -/
structure SegFit (s : Sg) : Prop where
  src : s.src ≤ 255
  tgt : s.tgt ≤ 255
  number : s.number < 4294967296
  answer : s.answer < 4294967296
  room : s.room ≤ 128
  len : s.data.length ≤ 200
  bytes : ∀ n ∈ s.data, n < 256
theorem SegU.fr {K : PySem.W.Frag} {F : List Addr} {H H' : Hp} {a u : Addr} {s : Sg} (h : SegU K H a u s) (f : Fr F H H') (n1 : a ∉ F) (n2 : u ∉ F) : SegU K H' a u s := ⟨h.ob.fr f n1, f _ _ h.da n2⟩
theorem SegU.same {K : PySem.W.Frag} {H H' : Hp} {a u : Addr} {s : Sg} (h : SegU K H a u s) (f : Same H H') : SegU K H' a u s := ⟨h.ob.same f, f _ _ h.da⟩
/-- a store that leaves the segments: no tuple, no object of seven fields changed -/
theorem SegAt.fr {K : PySem.W.Frag} {F : List Addr} {H H' : Hp} {x : V} {s : Sg} (h : SegAt K H x s) (f : Fr F H H') (n1 : ∀ a ∈ F, ∀ xs, H a ≠ some (.tup xs)) (n2 : ∀ a ∈ F, ∀ s u, ¬ ObjAt (He.ga K "Segment") H a (sf s u)) : SegAt K H' x s := by
  obtain ⟨a, u, rfl, g⟩ := h
  exact ⟨a, u, rfl, g.fr f (fun q => n2 a q _ _ g.ob) (fun q => n1 u q _ g.da)⟩
theorem SegAt.same {K : PySem.W.Frag} {H H' : Hp} {x : V} {s : Sg} (h : SegAt K H x s) (f : Same H H') : SegAt K H' x s := by
  obtain ⟨a, u, rfl, g⟩ := h
  exact ⟨a, u, rfl, g.same f⟩
theorem ObjAt.nseg {K : PySem.W.Frag} {C : Addr} {H : Hp} {a : Addr} {fs : List (Str × V)} (h : ObjAt C H a fs) (hl : fs.length ≠ 7) (s : Sg) (u : Addr) : ¬ ObjAt (He.ga K "Segment") H a (sf s u) := fun q => h.ins q (fun e => hl (e.trans rfl)) rfl
def spSInit (K : PySem.W.Frag) : Sp := fun vs H Q _ => ∃ (a u : Addr) (s : Sg), vs = [.ref a, .int s.src, .int s.tgt, .str (marks s.a s.c s.e s.o s.q), .int s.number, .int s.answer, .int s.room, .ref u] ∧ SegFit s ∧ ObjAt (He.ga K "Segment") H a [] ∧ H u = some (.tup (s.data.map nV)) ∧
  ∀ H', SegU K H' a u s → Fr [a] H H' → Q .non H'
def spSNumbered (K : PySem.W.Frag) : Sp := fun vs H Q _ => ∃ (a u : Addr) (s : Sg), vs = [.ref a] ∧ SegU K H a u s ∧ s.data.length ≤ 200 ∧ ∀ b H', Same H H' → H' b = some (.tup (s.items.map It.v)) → Q (.ref b) H'
section
variable {P : Program} {w : World} {K : PySem.W.Frag} {mg : Str → Option Value} {base : Heap}
theorem ok_Segment (S : Says K mg) (F_is_from_nought : Fn P w K mg base 1 "is_from_nought" ["thing", "most"] spFromNought) (F_are_marks : Fn P w K mg base 1 "are_marks" ["thing"] spAreMarks) (F_is_data : Fn P w K mg base 2 "is_data" ["thing"] spIsData) : Mr P w K mg base 3 "Segment" ["self", "source", "target", "marks", "number", "answer", "room", "data"] [] (spSInit K) := by
  obtain ⟨fd, F⟩ := S.u_Segment_init
  have sc : FnScope ["self", "source", "target", "marks", "number", "answer", "room", "data"] ["self", "source", "target", "marks", "number", "answer", "room", "data"] (defScope s_Segment_init) := ⟨rfl, rfl, rfl, by decide +kernel, rfl, by decide +kernel, by decide +kernel⟩
  refine ⟨⟨fd, [], F.ok sc (fun vs H Q E h => ?_) (fun cdv A outer s H vs Q E hr h => ⟨_, PSs.nox (pss_cons (ps_if (PW.pt (pw_or (pt_not (pt_val (pe_fn F_is_from_nought (hr.mono (by decide)) (pa_cons (pv 1) (pa_cons pe_int pa_nil))))) (pw_or (pt_not (pt_val (pe_fn F_is_from_nought (hr.mono (by decide)) (pa_cons (pv 2) (pa_cons pe_int pa_nil))))) (pw_or1 (pt_not (pt_val (pe_fn F_are_marks (hr.mono (by decide)) (pa_cons (pv 3) pa_nil)))))))) (pss_one ps_never) pss_nil)
      (pss_cons (ps_if (PW.pt (pw_or (pt_not (pt_val (pe_fn F_is_from_nought (hr.mono (by decide)) (pa_cons (pv 4) (pa_cons (pe_gi S.i_MOST_NUMBER) pa_nil))))) (pw_or1 (pt_not (pt_val (pe_fn F_is_from_nought (hr.mono (by decide)) (pa_cons (pv 5) (pa_cons (pe_gi S.i_MOST_NUMBER) pa_nil)))))))) (pss_one ps_never) pss_nil)
      (pss_cons (ps_if (PW.pt (pw_or (pt_not (pt_val (pe_fn F_is_from_nought (hr.mono (by decide)) (pa_cons (pv 6) (pa_cons (pe_gi S.i_MOST_ROOM_segments) pa_nil))))) (pw_or (pt_not (pt_val (pe_fn F_is_data (hr.mono (by decide)) (pa_cons (pv 7) pa_nil)))) (pw_or1 (pt_cmpR op_gt (pe_callB call_len rfl S.f_len boot_len (pa_cons (pv 7) pa_nil)) (pe_gi S.i_MOST_DATA_segments) (nomark _)))))) (pss_one ps_never) pss_nil)
      (pss_cons (ps_fld (pv 0) (pv 1) rfl)
      (pss_cons (ps_fld (pv 0) (pv 2) rfl)
      (pss_cons (ps_fld (pv 0) (pv 3) rfl)
      (pss_cons (ps_fld (pv 0) (pv 4) rfl)
      (pss_cons (ps_fld (pv 0) (pv 5) rfl)
      (pss_cons (ps_fld (pv 0) (pv 6) rfl)
      (pss_one (ps_fld (pv 0) (pv 7) rfl))))))))))), ?_⟩), F.bindsN (fun _ _ _ _ _ _ us hl => match us, hl with | [_, _, _, _, _, _, _, _], _ => rfl), .nil⟩, S.k_Segment, S.g_Segment⟩
  · obtain ⟨_, _, _, rfl, _⟩ := h
    rfl
  · obtain ⟨a, u, s, rfl, f, O, hu, k⟩ := h
    have fn : ∀ (σ : L2.St) (H' : Hp) (te tm : TE) (i n : Int), Val te σ H' (.int i) → Val tm σ H' (.int n) → 0 ≤ i → i ≤ n → AnsS (tNot (tB (tCall spFromNought [] E0 (tCons te (tCons tm tNil))))) σ H' false := fun σ H' te tm i n h1 h2 h3 h4 => Ans.mk_s (ans_not (b := true) (ans_val (val_fn (arg_cons h1 (arg_cons h2 arg_nil)) fun Q q => ⟨i, n, rfl, h3, h4, q⟩)))
    refine sq_noS (anss_or (fn _ _ _ _ _ _ (val_var rfl) val_c (by omega) (by have := f.src; omega)) fun H1 s1 => anss_or (fn _ _ _ _ _ _ (val_var rfl) val_c (by omega) (by have := f.tgt; omega)) fun H2 s2 => anss_not (b := true) (anss_val (vals_fn (arg_cons (val_var rfl) arg_nil) fun Q q => ⟨s.a, s.c, s.e, s.o, s.q, rfl, q⟩))) fun H3 s3 => ?_
    replace O := O.same s3
    replace hu := s3 _ _ hu
    have F := Fr.same (F := [a]) s3
    clear s3
    refine sq_noS (anss_or (fn _ _ _ _ _ _ (val_var rfl) val_c (by omega) (by have := f.number; omega)) fun H1 s1 => (fn _ _ _ _ _ _ (val_var rfl) val_c (by omega) (by have := f.answer; omega))) fun H4 s3 => ?_
    replace O := O.same s3
    replace hu := s3 _ _ hu
    replace F := F.trans (Fr.same s3)
    clear s3
    refine sq_noS (anss_or (fn _ _ _ _ _ _ (val_var rfl) val_c (by omega) (by have := f.room; omega)) fun H1 s1 => anss_or (anss_not (b := true) (anss_val (vals_fn (arg_cons (val_var rfl) arg_nil) fun Q q => ⟨u, s.data, rfl, s1 _ _ hu, by have := f.len; omega, f.bytes, q⟩))) fun H2 s2 => ans_le (val_len_tup (val_var rfl) (SqT.of (s2 _ _ (s1 _ _ hu)))) val_c ?_) fun H5 s3 => ?_
    · exact congrArg V.bl (decide_eq_false (by rw [List.length_map]; have := f.len; omega))
    replace O := O.same s3
    replace hu := s3 _ _ hu
    replace F := F.trans (Fr.same s3)
    clear s3
    have hua : u ≠ a := (O.tup hu).symm
    refine sq_obj (val_var rfl) (val_var rfl) O S.c_Segment S.n_Segment_source (Nat.le_of_ble_eq_true (by kernel_rfl)) rfl fun H1 O F2 => ?_
    replace F := F.trans F2
    replace hu := F2 _ _ hu (by simp [hua])
    refine sq_obj (val_var rfl) (val_var rfl) O S.c_Segment S.n_Segment_target (Nat.le_of_ble_eq_true (by kernel_rfl)) rfl fun H1 O F2 => ?_
    replace F := F.trans F2
    replace hu := F2 _ _ hu (by simp [hua])
    refine sq_obj (val_var rfl) (val_var rfl) O S.c_Segment S.n_Segment_marks (Nat.le_of_ble_eq_true (by kernel_rfl)) rfl fun H1 O F2 => ?_
    replace F := F.trans F2
    replace hu := F2 _ _ hu (by simp [hua])
    refine sq_obj (val_var rfl) (val_var rfl) O S.c_Segment S.n_Segment_number (Nat.le_of_ble_eq_true (by kernel_rfl)) rfl fun H1 O F2 => ?_
    replace F := F.trans F2
    replace hu := F2 _ _ hu (by simp [hua])
    refine sq_obj (val_var rfl) (val_var rfl) O S.c_Segment S.n_Segment_answer (Nat.le_of_ble_eq_true (by kernel_rfl)) rfl fun H1 O F2 => ?_
    replace F := F.trans F2
    replace hu := F2 _ _ hu (by simp [hua])
    refine sq_obj (val_var rfl) (val_var rfl) O S.c_Segment S.n_Segment_room (Nat.le_of_ble_eq_true (by kernel_rfl)) rfl fun H1 O F2 => ?_
    replace F := F.trans F2
    replace hu := F2 _ _ hu (by simp [hua])
    refine st_obj (val_var rfl) (val_var rfl) O S.c_Segment S.n_Segment_data (Nat.le_of_ble_eq_true (by kernel_rfl)) rfl fun H1 O F2 => ?_
    replace F := F.trans F2
    replace hu := F2 _ _ hu (by simp [hua])
    refine k H1 ⟨?_, hu⟩ F
    obtain ⟨dx, e⟩ := O
    refine ⟨dx, e.trans (congrArg (fun z => some (HO.ins _ dx z)) ?_)⟩
    kernel_rfl
theorem ok_Segment_numbered (S : Says K mg)  : Mt P w K mg base 1 "Segment" "numbered" ["self"] (spSNumbered K) := by
  obtain ⟨fd, F⟩ := S.u_Segment_numbered
  have sc : FnScope ["self", "ahead", "letter"] ["self"] (defScope s_Segment_numbered) := ⟨rfl, rfl, rfl, by decide +kernel, rfl, by decide +kernel, by decide +kernel⟩
  refine ⟨⟨fd, F.ok sc (fun vs H Q E h => ?_) (fun cdv A outer s H vs Q E hr h => ⟨_, PSs.nox (pss_cons (ps_set (i := 1) sc.nd rfl (Or.inl rfl) (pe_callTy call_tuple_of rfl S.f_tuple boot_tuple (pa_cons (pe_lc (own := [("letter", 2)]) (g := gName 2) rfl sc.nd (pi_str pe_str) (blkOk_by (own := [("letter", 2)]) (N := ["self", "ahead", "letter"]) (sc := defScope s_Segment_numbered) (by decide +kernel)) (fun _ _ _ _ _ => pg_name (i := 2) sc.nd rfl (Or.inl rfl)) (fun _ _ _ _ _ => pts_one (pt_cmpR op_in_sign (pv 2) (pe_fldK K (pv 0) rfl) rfl)) (fun _ _ _ _ _ => (pv 2))) pa_nil)))
      (pss_one (ps_ret (pe_op op_catA (pe_op op_catA (pv 1) (pe_fld (pv 0) rfl)) (pe_callTy call_tuple_of rfl S.f_tuple boot_tuple (pa_cons (pe_lc (own := [("letter", 2)]) (g := gName 2) rfl sc.nd (pi_str pe_str) (blkOk_by (own := [("letter", 2)]) (N := ["self", "ahead", "letter"]) (sc := defScope s_Segment_numbered) (by decide +kernel)) (fun _ _ _ _ _ => pg_name (i := 2) sc.nd rfl (Or.inl rfl)) (fun _ _ _ _ _ => pts_one (pt_cmpR op_in_sign (pv 2) (pe_fldK K (pv 0) rfl) rfl)) (fun _ _ _ _ _ => (pv 2))) pa_nil)))))), ?_⟩), F.bindsN (fun _ _ _ _ _ _ us hl => match us, hl with | [_], _ => rfl)⟩, S.c_Segment, S.m_Segment_numbered⟩
  · obtain ⟨_, _, _, rfl, _⟩ := h
    rfl
  · obtain ⟨a, u, s, rfl, U, hl, k⟩ := h
    refine sq_as (ex_cbe (ex_ce ?_))
    refine ex_lc1 (m := 111) (b := s.o) (by decide +kernel) (fun H1 s1 => ⟨rfl, ans_sg (val_var rfl) rfl (val_obj (val_var (i := 0) rfl) (U.ob.same s1) S.c_Segment S.n_Segment_marks sf_marks) (mark_o _ _ _ _ _), (val_var rfl)⟩) fun D1 H1 s1 h1 => ?_
    refine ta_nil ⟨D1, _, rfl, .inl ⟨SqL.of h1, fun t1 ht1 => ?_⟩⟩
    have hT1 : upd H1 t1 (.tup (if s.o = true then [V.str ⟨#[111]⟩] else [])) t1 = some (.tup (if s.o = true then [V.str ⟨#[111]⟩] else [])) := upd_same
    replace s1 := s1.trans (Same.new (o := .tup (if s.o = true then [V.str ⟨#[111]⟩] else [])) ht1)
    replace U := U.same s1
    generalize upd H1 t1 _ = H2 at *
    refine st_rt (ex_ope (ex_op1 (val_var rfl) ?_))
    refine val_obj (val_var (i := 0) rfl) U.ob S.c_Segment S.n_Segment_data sf_data _ (cat_t hT1 U.da ?_ fun p H3 s3 h3 => ?_)
    · rw [sizeLine_eq, List.length_map]; split <;> simp <;> omega
    refine ex_cbe (ex_ce ?_)
    replace U := U.same s3
    refine ex_lc1 (m := 101) (b := s.e) (by decide +kernel) (fun H1 s1 => ⟨rfl, ans_sg (val_var rfl) rfl (val_obj (val_var (i := 0) rfl) (U.ob.same s1) S.c_Segment S.n_Segment_marks sf_marks) (mark_e _ _ _ _ _), (val_var rfl)⟩) fun D2 H4 s4 h4 => ?_
    refine ta_nil ⟨D2, _, rfl, .inl ⟨SqL.of h4, fun t2 ht2 => cat_t (upd_at (s4 _ _ h3) ht2) upd_same ?_ fun p2 H5 s5 h5 => k p2 H5 (((s1.trans s3).trans (s4.trans (Same.new ht2))).trans s5) ?_⟩⟩
    · rw [sizeLine_eq, List.length_append, List.length_map]; split <;> split <;> simp <;> omega
    · rw [h5]
      unfold Sg.items
      rw [List.map_append, List.map_append, List.map_map, List.append_assoc]
      cases s.o <;> cases s.e <;> rfl
end
end SW
end
section
set_option maxRecDepth 100000
set_option maxHeartbeats 4000000
/-! Taker. -/
namespace SW
open PySem PySem.Spec PyProof.Rows L2
def kvs (l : List (Nat × It)) : List (Key × V) := l.map fun p => ((.inl (p.1 : Int) : Key), It.v p.2)
structure TakerU (K : PySem.W.Frag) (H : Hp) (a d u : Addr) (t : Tk) : Prop where
  ob : ObjAt (He.ga K "Taker") H a (tf t d u)
  ah : H d = some (.dK (kvs t.ahead))
  un : H u = some (.tup (t.unread.map nV))
theorem TakerU.same {K : PySem.W.Frag} {H H' : Hp} {a d u : Addr} {t : Tk} (h : TakerU K H a d u t) (f : Same H H') : TakerU K H' a d u t := ⟨h.ob.same f, f _ _ h.ah, f _ _ h.un⟩
theorem TakerU.fr {K : PySem.W.Frag} {F : List Addr} {H H' : Hp} {a d u : Addr} {t : Tk} (h : TakerU K H a d u t) (f : Fr F H H') (n1 : a ∉ F) (n2 : d ∉ F) (n3 : ∀ b ∈ F, ∀ xs, H b ≠ some (.tup xs)) : TakerU K H' a d u t := ⟨h.ob.fr f n1, f _ _ h.ah n2, f _ _ h.un fun q => n3 _ q _ h.un⟩
theorem TakerU.ad {K : PySem.W.Frag} {H : Hp} {a d u : Addr} {t : Tk} (h : TakerU K H a d u t) : a ≠ d := h.ob.dK h.ah
theorem TakerU.au {K : PySem.W.Frag} {H : Hp} {a d u : Addr} {t : Tk} (h : TakerU K H a d u t) : a ≠ u := h.ob.tup h.un
theorem TakerU.du {K : PySem.W.Frag} {H : Hp} {a d u : Addr} {t : Tk} (h : TakerU K H a d u t) : d ≠ u := ne_of h.ah h.un fun q => nomatch q
theorem valV_kvs (l : List (Nat × It)) (k : Nat) : valV (kvs l) (.inl (k : Int)) = (aget l k).map It.v := by
  induction l with
  | nil => rfl
  | cons p r ih =>
    by_cases c : p.1 = k
    · have e1 : aget (p :: r) k = some p.2 := by unfold aget; rw [List.find?_cons_of_pos (by simpa using c)]; rfl
      rw [e1]
      show valV (((.inl (p.1 : Int) : Key), It.v p.2) :: kvs r) _ = _
      rw [valV_pos (by rw [c])]
      rfl
    · have e1 : aget (p :: r) k = aget r k := by unfold aget; rw [List.find?_cons_of_neg (by simpa using c)]
      rw [e1, ← ih]
      show valV (((.inl (p.1 : Int) : Key), It.v p.2) :: kvs r) _ = _
      unfold valV
      rw [List.find?_cons_of_neg]
      intro q
      have q := of_decide_eq_true q
      exact c (Int.ofNat.inj (Sum.inl.inj q))
theorem putK_kvs {l : List (Nat × It)} {k : Nat} {it : It} (h : aget l k = none) : putK (kvs l) (.inl (k : Int)) (It.v it) = kvs (l ++ [(k, it)]) := by
  have hv := valV_kvs l k
  rw [h] at hv
  have hn : ((kvs l).any fun kv => decide (kv.1 = .inl (k : Int))) = false := by
    rw [List.any_eq_false]
    intro p hp q
    unfold kvs at hp
    obtain ⟨x, hx, rfl⟩ := List.mem_map.mp hp
    have q := of_decide_eq_true q
    exact aget_none h x hx (Int.ofNat.inj (Sum.inl.inj q))
  unfold putK
  rw [if_neg (by rw [hn]; decide)]
  unfold kvs
  rw [List.map_append]
  rfl
theorem dropK_kvs (l : List (Nat × It)) (k : Nat) : dropK (kvs l) (.inl (k : Int)) = kvs (adrop l k) := by
  unfold dropK kvs adrop
  rw [List.filter_map]
  congr 1
  refine List.filter_congr fun p _ => ?_
  refine decide_eq_decide.mpr ⟨fun h q => h (by show Sum.inl (p.1 : Int) = _; rw [q]), fun h q => h (Int.ofNat.inj (Sum.inl.inj q))⟩
def spTInit (K : PySem.W.Frag) : Sp := fun vs H Q _ => ∃ (a : Addr) (n : Nat), vs = [.ref a, .int n, .int 128] ∧ n < 4294967296 ∧ ObjAt (He.ga K "Taker") H a [] ∧ ∀ d u H', H d = none → TakerU K H' a d u (.new n) → Fr [a] H H' → Q .non H'
def spTFree (K : PySem.W.Frag) : Sp := fun vs H Q _ => ∃ (a d u : Addr) (t : Tk), vs = [.ref a] ∧ TakerU K H a d u t ∧ t.unread.length ≤ 128 ∧ Q (.int t.free) H
def spTWants (K : PySem.W.Frag) : Sp := fun vs H Q _ => ∃ (a d u : Addr) (t : Tk), vs = [.ref a] ∧ TakerU K H a d u t ∧ t.unread.length ≤ 128 ∧ ∀ b H', H b = none → Same H H' → H' b = some (.tup [.int t.wanted, .int t.free]) → Q (.ref b) H'
def spTRead (K : PySem.W.Frag) : Sp := fun vs H Q _ => ∃ (a d u n : Nat) (t : Tk), vs = [.ref a, .int n] ∧ TakerU K H a d u t ∧ ∀ b u' H', TakerU K H' a d u' (t.read n) → Fr [a] H H' → H' b = some (.tup ((t.unread.take n).map nV)) → Q (.ref b) H'
def spTReady (K : PySem.W.Frag) : Sp := fun vs H Q _ => ∃ (a d u : Addr) (t : Tk), vs = [.ref a] ∧ TakerU K H a d u t ∧ Q (.int t.unread.length) H
def spTEnded (K : PySem.W.Frag) : Sp := fun vs H Q _ => ∃ (a d u : Addr) (t : Tk), vs = [.ref a] ∧ TakerU K H a d u t ∧ Q (.bl t.over) H
def spTCome (K : PySem.W.Frag) : Sp := fun vs H Q _ => ∃ (a d u : Addr) (t : Tk) (it : It), vs = [.ref a, it.v] ∧ TakerU K H a d u t ∧ t.wanted < 4294967296 ∧ t.unread.length ≤ 1000 ∧ ∀ d' u' H', (d' = d ∨ H d' = none) → TakerU K H' a d' u' (t.come it) → Fr [a] H H' → Q .non H'
section
variable {P : Program} {w : World} {K : PySem.W.Frag} {mg : Str → Option Value} {base : Heap}
theorem ok_Taker (S : Says K mg) (F_is_within : Fn P w K mg base 1 "is_within" ["thing", "least", "most"] spIsWithin) : Mr P w K mg base 2 "Taker" ["self", "first", "room"] [] (spTInit K) := by
  obtain ⟨fd, F⟩ := S.u_Taker_init
  have sc : FnScope ["self", "first", "room"] ["self", "first", "room"] (defScope s_Taker_init) := ⟨rfl, rfl, rfl, by decide +kernel, rfl, by decide +kernel, by decide +kernel⟩
  refine ⟨⟨fd, [], F.ok sc (fun vs H Q E h => ?_) (fun cdv A outer s H vs Q E hr h => ⟨_, PSs.nox (pss_cons (ps_if (PW.pt (pw_or (pt_not (pt_val (pe_fn F_is_within (hr.mono (by decide)) (pa_cons (pv 1) (pa_cons pe_int (pa_cons (pe_op op_sub (pe_gi S.i_SIZE_takers) pe_int) pa_nil)))))) (pw_or1 (pt_not (pt_val (pe_fn F_is_within (hr.mono (by decide)) (pa_cons (pv 2) (pa_cons pe_int (pa_cons (pe_gi S.i_MOST_ROOM_takers) pa_nil))))))))) (pss_one ps_never) pss_nil)
      (pss_cons (ps_fld (pv 0) (pv 1) rfl)
      (pss_cons (ps_fld (pv 0) (pv 2) rfl)
      (pss_cons (ps_fld (pv 0) pe_dnewK rfl)
      (pss_cons (ps_fld (pv 0) (pe_tup pa_nil) rfl)
      (pss_one (ps_fld (pv 0) pe_bl rfl))))))), ?_⟩), F.bindsN (fun _ _ _ _ _ _ us hl => match us, hl with | [_, _, _], _ => rfl), .nil⟩, S.k_Taker, S.g_Taker⟩
  · obtain ⟨_, _, rfl, _⟩ := h
    rfl
  · obtain ⟨a, n, rfl, hn, O, k⟩ := h
    refine sq_no (ans_or (b := false) ?_ ?_) ?_
    · exact ans_not (b := true) (ans_val (val_fn (arg_cons (val_var rfl) (arg_cons val_c (arg_cons (val_sub val_c val_c) arg_nil))) fun Q q => ⟨_, _, _, rfl, by omega, by omega, q⟩))
    · exact ans_not (b := true) (ans_val (val_fn (arg_cons (val_var rfl) (arg_cons val_c (arg_cons val_c arg_nil))) fun Q q => ⟨_, _, _, rfl, by omega, by omega, q⟩))
    refine sq_obj (val_var rfl) (val_var rfl) O S.c_Taker S.n_Taker_wanted (Nat.le_of_ble_eq_true (by kernel_rfl)) rfl fun H1 O F1 => ?_
    refine sq_obj (val_var rfl) (val_var rfl) O S.c_Taker S.n_Taker_whole_room (Nat.le_of_ble_eq_true (by kernel_rfl)) rfl fun H1 O F2 => ?_
    replace F1 := F1.trans F2
    have O4 := O
    refine st_seq fun d hd => sto_obj (val_var rfl) (O.same (Same.new hd)) S.c_Taker S.n_Taker_ahead (Nat.le_of_ble_eq_true (by kernel_rfl)) rfl fun H2 O F2 => ?_
    have had : d ≠ a := O4.nn hd
    have hd0 : H d = none := (F1.free hd).resolve_right (by simp [had])
    have L : H2 d = some (.dK []) := F2 _ _ upd_same (by simp [had])
    replace F1 := (F1.trans (Fr.new hd)).trans F2
    have O5 := O
    refine st_seq ⟨by show 0 ≤ sizeLine; decide, fun u hu => sto_obj (val_var rfl) (O.same (Same.new hu)) S.c_Taker S.n_Taker_unread (Nat.le_of_ble_eq_true (by kernel_rfl)) rfl fun H3 O F2 => ?_⟩
    have hau : u ≠ a := O5.nn hu
    have U : H3 u = some (.tup []) := F2 _ _ upd_same (by simp [hau])
    replace L : H3 d = some (.dK []) := F2 _ _ (upd_at L hu) (by simp [had])
    replace F1 := (F1.trans (Fr.new hu)).trans F2
    refine st_obj val_c (val_var rfl) O S.c_Taker S.n_Taker_over (Nat.le_of_ble_eq_true (by kernel_rfl)) rfl fun H1 O F2 => ?_
    replace F1 := F1.trans F2
    replace L := F2 _ _ L (by simp [had])
    replace U := F2 _ _ U (by simp [hau])
    refine k d u H1 hd0 ⟨?_, L, U⟩ F1
    obtain ⟨dx, e⟩ := O
    refine ⟨dx, e.trans (congrArg (fun z => some (HO.ins _ dx z)) ?_)⟩
    kernel_rfl
theorem ok_Taker_free (S : Says K mg)  : Mt P w K mg base 1 "Taker" "free" ["self"] (spTFree K) := by
  obtain ⟨fd, F⟩ := S.u_Taker_free
  have sc : FnScope ["self"] ["self"] (defScope s_Taker_free) := ⟨rfl, rfl, rfl, by decide +kernel, rfl, by decide +kernel, by decide +kernel⟩
  refine ⟨⟨fd, F.ok sc (fun vs H Q E h => ?_) (fun cdv A outer s H vs Q E hr h => ⟨_, PSs.nox (pss_one (ps_ret (pe_op op_sub (pe_fld (pv 0) rfl) (pe_callB call_len rfl S.f_len boot_len (pa_cons (pe_fld (pv 0) rfl) pa_nil))))), ?_⟩), F.bindsN (fun _ _ _ _ _ _ us hl => match us, hl with | [_], _ => rfl)⟩, S.c_Taker, S.m_Taker_free⟩
  · obtain ⟨_, _, _, _, rfl, _⟩ := h
    rfl
  · obtain ⟨a, d, u, t, rfl, T, hl, k⟩ := h
    refine st_ret (val_nat (val_sub (val_obj (val_var rfl) T.ob S.c_Taker S.n_Taker_whole_room tf_whole_room) (val_len_tup (val_obj (val_var rfl) T.ob S.c_Taker S.n_Taker_unread tf_unread) (SqT.of T.un))) (m := t.free) ?_) k
    rw [List.length_map]
    unfold Tk.free
    omega
theorem ok_Taker_ready (S : Says K mg)  : Mt P w K mg base 1 "Taker" "ready" ["self"] (spTReady K) := by
  obtain ⟨fd, F⟩ := S.u_Taker_ready
  have sc : FnScope ["self"] ["self"] (defScope s_Taker_ready) := ⟨rfl, rfl, rfl, by decide +kernel, rfl, by decide +kernel, by decide +kernel⟩
  refine ⟨⟨fd, F.ok sc (fun vs H Q E h => ?_) (fun cdv A outer s H vs Q E hr h => ⟨_, PSs.nox (pss_one (ps_ret (pe_callB call_len rfl S.f_len boot_len (pa_cons (pe_fld (pv 0) rfl) pa_nil)))), ?_⟩), F.bindsN (fun _ _ _ _ _ _ us hl => match us, hl with | [_], _ => rfl)⟩, S.c_Taker, S.m_Taker_ready⟩
  · obtain ⟨_, _, _, _, rfl, _⟩ := h
    rfl
  · obtain ⟨a, d, u, t, rfl, T, k⟩ := h
    refine st_ret (val_len_tup (val_obj (val_var rfl) T.ob S.c_Taker S.n_Taker_unread tf_unread) (SqT.of T.un)) ?_
    rw [List.length_map]
    exact k
theorem ok_Taker_ended (S : Says K mg)  : Mt P w K mg base 1 "Taker" "ended" ["self"] (spTEnded K) := by
  obtain ⟨fd, F⟩ := S.u_Taker_ended
  have sc : FnScope ["self"] ["self"] (defScope s_Taker_ended) := ⟨rfl, rfl, rfl, by decide +kernel, rfl, by decide +kernel, by decide +kernel⟩
  refine ⟨⟨fd, F.ok sc (fun vs H Q E h => ?_) (fun cdv A outer s H vs Q E hr h => ⟨_, PSs.nox (pss_one (ps_ret (pe_fld (pv 0) rfl))), ?_⟩), F.bindsN (fun _ _ _ _ _ _ us hl => match us, hl with | [_], _ => rfl)⟩, S.c_Taker, S.m_Taker_ended⟩
  · obtain ⟨_, _, _, _, rfl, _⟩ := h
    rfl
  · obtain ⟨a, d, u, t, rfl, T, k⟩ := h
    exact st_ret (val_obj (val_var rfl) T.ob S.c_Taker S.n_Taker_over tf_over) k
theorem ok_Taker_wants (S : Says K mg) (F_Taker_free : Mt P w K mg base 1 "Taker" "free" ["self"] (spTFree K)) : Mt P w K mg base 2 "Taker" "wants" ["self"] (spTWants K) := by
  obtain ⟨fd, F⟩ := S.u_Taker_wants
  have sc : FnScope ["self"] ["self"] (defScope s_Taker_wants) := ⟨rfl, rfl, rfl, by decide +kernel, rfl, by decide +kernel, by decide +kernel⟩
  refine ⟨⟨fd, F.ok sc (fun vs H Q E h => ?_) (fun cdv A outer s H vs Q E hr h => ⟨_, PSs.nox (pss_one (ps_ret (pe_tup (pa_cons (pe_fld (pv 0) rfl) (pa_cons (pe_mt0 (pv 0) F_Taker_free (hr.mono (by decide))) pa_nil))))), ?_⟩), F.bindsN (fun _ _ _ _ _ _ us hl => match us, hl with | [_], _ => rfl)⟩, S.c_Taker, S.m_Taker_wants⟩
  · obtain ⟨_, _, _, _, rfl, _⟩ := h
    rfl
  · obtain ⟨a, d, u, t, rfl, T, hl, k⟩ := h
    refine st_rt (ex_c1 (val_obj (val_var rfl) T.ob S.c_Taker S.n_Taker_wanted tf_wanted) (ex_c1 (val_mt (val_var rfl) T.ob (by kernel_rfl) arg_nil fun Q q => ⟨a, d, u, t, rfl, T, hl, q⟩) (ta_nil ⟨by show 2 ≤ sizeLine; decide, fun b hb => k b _ hb (Same.new hb) upd_same⟩)))
theorem ok_Taker_read (S : Says K mg) (F_is_within : Fn P w K mg base 1 "is_within" ["thing", "least", "most"] spIsWithin) : Mt P w K mg base 2 "Taker" "read" ["self", "many"] (spTRead K) := by
  obtain ⟨fd, F⟩ := S.u_Taker_read
  have sc : FnScope ["self", "many", "found"] ["self", "many"] (defScope s_Taker_read) := ⟨rfl, rfl, rfl, by decide +kernel, rfl, by decide +kernel, by decide +kernel⟩
  refine ⟨⟨fd, F.ok sc (fun vs H Q E h => ?_) (fun cdv A outer s H vs Q E hr h => ⟨_, PSs.nox (pss_cons (ps_if (pt_not (pt_val (pe_fn F_is_within (hr.mono (by decide)) (pa_cons (pv 1) (pa_cons pe_int (pa_cons (pv 1) pa_nil)))))) (pss_one ps_never) pss_nil)
      (pss_cons (ps_set (i := 2) sc.nd rfl (Or.inl rfl) (pe_slice sl_tupA (pe_fld (pv 0) rfl) po_none (po_some (pv 1))))
      (pss_cons (ps_fld (pv 0) (pe_slice sl_tupA (pe_fld (pv 0) rfl) (po_some (pv 1)) po_none) rfl)
      (pss_one (ps_ret (pv 2)))))), ?_⟩), F.bindsN (fun _ _ _ _ _ _ us hl => match us, hl with | [_, _], _ => rfl)⟩, S.c_Taker, S.m_Taker_read⟩
  · obtain ⟨_, _, _, _, _, rfl, _⟩ := h
    rfl
  · obtain ⟨a, d, u, n, t, rfl, T, k⟩ := h
    refine sq_no (ans_not (b := true) (ans_val (val_fn (arg_cons (val_var rfl) (arg_cons val_c (arg_cons (val_var rfl) arg_nil))) fun Q q => ⟨_, _, _, rfl, by omega, by omega, q⟩))) ?_
    refine sq_as (slt_e (val_obj (val_var rfl) T.ob S.c_Taker S.n_Taker_unread tf_unread) (po_n (po_v (val_var rfl) (sl_take T.un fun b H1 s1 hb => ?_))))
    replace T := T.same s1
    refine st_seq (slt_e (val_obj (val_var rfl) T.ob S.c_Taker S.n_Taker_unread tf_unread) (po_v (val_var rfl) (po_n (sl_drop T.un fun u' H2 s2 hu => ?_))))
    replace T := T.same s2
    replace hb := s2 _ _ hb
    refine sto_obj (val_var rfl) T.ob S.c_Taker S.n_Taker_unread tf_few (tp_unread u') fun H3 O F3 => ?_
    refine st_ret (val_var rfl) (k b u' H3 ⟨O, F3 _ _ T.ah (by simp [T.ad.symm]), ?_⟩ ((Fr.same (s1.trans s2)).trans F3) ?_)
    · rw [F3 _ _ hu (by simp [(T.ob.tup hu).symm]), ← List.map_drop]
      rfl
    · rw [F3 _ _ hb (by simp [(T.ob.tup hb).symm]), ← List.map_take]
theorem ok_Taker_come_ready (S : Says K mg) (F_moved : Fn P w K mg base 2 "moved" ["number", "by", "size"] spMoved) : Mt P w K mg base 3 "Taker" "come_ready" ["self", "item"] (spTCome K) := by
  obtain ⟨fd, F⟩ := S.u_Taker_come_ready
  have sc : FnScope ["self", "item"] ["self", "item"] (defScope s_Taker_come_ready) := ⟨rfl, rfl, rfl, by decide +kernel, rfl, by decide +kernel, by decide +kernel⟩
  refine ⟨⟨fd, F.ok sc (fun vs H Q E h => ?_) (fun cdv A outer s H vs Q E hr h => ⟨_, PSs.nox (pss_cons (ps_fld (pv 0) (pe_fn F_moved (hr.mono (by decide)) (pa_cons (pe_fld (pv 0) rfl) (pa_cons pe_int (pa_cons (pe_gi S.i_SIZE_takers) pa_nil)))) rfl)
      (pss_one (ps_if (pt_cmpR op_eq (pv 1) pe_str (nomark _)) (pss_cons (ps_fld (pv 0) pe_bl rfl)
      (pss_one (ps_fld (pv 0) pe_dnewK rfl))) (pss_one (ps_if (pt_cmpR op_ne (pv 1) pe_str (nomark _)) (pss_one (ps_fld (pv 0) (pe_op op_catA (pe_fld (pv 0) rfl) (pe_tup (pa_cons (pv 1) pa_nil))) rfl)) pss_nil))))), ?_⟩), F.bindsN (fun _ _ _ _ _ _ us hl => match us, hl with | [_, _], _ => rfl)⟩, S.c_Taker, S.m_Taker_come_ready⟩
  · obtain ⟨_, _, _, _, _, rfl, _⟩ := h
    rfl
  · obtain ⟨a, d, u, t, it, rfl, T, hw, hl, k⟩ := h
    refine sq_obj (y := .int (moved t.wanted 1 : Nat)) ?_ (val_var rfl) T.ob S.c_Taker S.n_Taker_wanted tf_few (tp_wanted (moved t.wanted 1)) fun H1 O F1 => ?_
    · refine val_fn (arg_cons (val_obj (val_var rfl) T.ob S.c_Taker S.n_Taker_wanted tf_wanted) (arg_cons val_c (arg_cons val_c arg_nil))) fun Q q => ⟨t.wanted, 1, _, rfl, rfl, hw, ?_⟩
      rw [show ((t.wanted : Int) + 1) % 4294967296 = (moved t.wanted 1 : Nat) from moved_int t.wanted 1]
      exact q
    have T1 : TakerU K H1 a d u { t with wanted := moved t.wanted 1 } := ⟨O, F1 _ _ T.ah (by simp [T.ad.symm]), F1 _ _ T.un (by simp [T.au.symm])⟩
    refine st_if (ans_eqS (val_var rfl) val_c (it_scal it _) (it_eq_e it)) (fun he => ?_) (fun he => ?_)
    · have he : it = .e := of_decide_eq_true he
      refine sq_obj val_c (val_var rfl) T1.ob S.c_Taker S.n_Taker_over tf_few (tp_over true) fun H2 O2 F2 => ?_
      refine fun d' hd' => sto_obj (val_var rfl) (O2.same (Same.new hd')) S.c_Taker S.n_Taker_ahead tf_few (tp_ahead d') fun H3 O3 F3 => ?_
      have hda : d' ≠ a := O2.nn hd'
      refine k d' u H3 (.inr (((F1.trans F2).free hd').resolve_right (by simp [hda]))) ?_ (((F1.trans F2).trans (Fr.new hd')).trans F3)
      rw [he]
      exact ⟨O3, F3 _ _ upd_same (by simp [hda]), F3 _ _ (upd_at (F2 _ _ T1.un (by simp [T.au.symm])) hd') (by simp [T.au.symm])⟩
    · have he : it ≠ .e := of_decide_eq_false he
      refine st_if (ans_neS (val_var rfl) val_c (it_scal it _) (it_ne_o it)) (fun ho => ?_) (fun ho => ?_)
      · have ho : it ≠ .o := of_decide_eq_true ho
        cases it with
        | e => exact absurd rfl he
        | o => exact absurd rfl ho
        | b n =>
          refine ex_op1 (val_obj (val_var rfl) T1.ob S.c_Taker S.n_Taker_unread tf_unread) (ex_c1 (val_var rfl) (ta_nil ⟨by show 1 ≤ sizeLine; decide, fun p hp => ?_⟩))
          refine cat_t (upd_at T1.un hp) upd_same (by rw [sizeLine_eq, List.length_map]; simp; omega) fun u' H2 s2 h2 => ?_
          have T2 := (T1.same (Same.new hp)).same s2
          refine sto_obj (val_var rfl) T2.ob S.c_Taker S.n_Taker_unread tf_few (tp_unread u') fun H3 O3 F3 => ?_
          refine k d u' H3 (.inl rfl) ⟨O3, F3 _ _ T2.ah (by simp [T.ad.symm]), ?_⟩ ((F1.trans (Fr.same ((Same.new hp).trans s2))).trans F3)
          rw [F3 _ _ h2 (by simp [(T2.ob.tup h2).symm])]
          show _ = some (HO.tup ((t.unread ++ [n]).map nV))
          rw [List.map_append]
          rfl
      · have ho : it = .o := Classical.byContradiction fun q => of_decide_eq_false ho q
        refine st_next (k d u H1 (.inl rfl) ?_ F1)
        rw [ho]
        exact T1
end
end SW
end
section
set_option maxRecDepth 100000
set_option maxHeartbeats 4000000
/-! Taker.take. -/
namespace SW
open PySem PySem.Spec PyProof.Rows L2
def spTTake (K : PySem.W.Frag) : Sp := fun vs H Q _ => ∃ (a d u num r : Addr) (t : Tk) (items : List It), vs = [.ref a, .int num, .ref r] ∧ TakerU K H a d u t ∧ H r = some (.tup (items.map It.v)) ∧ num < 4294967296 ∧ t.wanted < 4294967296 ∧ t.unread.length ≤ 128 ∧ t.ahead.length ≤ 10000 ∧ items.length ≤ 1000 ∧ (t.laid num items).ahead.length ≤ 600 ∧
  ∀ d' u' H', (d' = d ∨ H d' = none) → TakerU K H' a d' u' (t.take num items) → Fr [a, d] H H' → Q .non H'
theorem lay_take (w f num : Nat) : ∀ (items : List It) (n i : Nat) (a : List (Nat × It)) (it : It), items[i]? = some it → lay w f num n (items.take (i + 1)) a = layOne w f (moved num (n + i)) it (lay w f num n (items.take i) a)
  | [], _, _, _, _, h => by rw [List.getElem?_nil] at h; cases h
  | x :: r, n, 0, a, it, h => by
    cases (show x = it from Option.some.inj h)
    rfl
  | x :: r, n, i + 1, a, it, h => by
    have := lay_take w f num r (n + 1) i (layOne w f (moved num n) x a) it h
    rw [show n + 1 + i = n + (i + 1) by omega] at this
    exact this
theorem lay_len (w f num : Nat) : ∀ (items : List It) (n : Nat) (a : List (Nat × It)), (lay w f num n items a).length ≤ a.length + items.length
  | [], _, _ => Nat.le_refl _
  | x :: r, n, a => by
    have := lay_len w f num r (n + 1) (layOne w f (moved num n) x a)
    have h2 : (layOne w f (moved num n) x a).length ≤ a.length + 1 := by
      unfold layOne
      split
      · rw [List.length_append]; exact Nat.le_refl _
      · omega
    show (lay w f num (n + 1) r _).length ≤ _
    rw [List.length_cons]
    omega
theorem come_ahead (t : Tk) (it : It) : (t.come it).ahead = [] ∨ (t.come it).ahead = t.ahead := by
  cases it
  · exact .inr rfl
  · exact .inl rfl
  · exact .inr rfl
theorem come_unread (t : Tk) (it : It) : (t.come it).unread.length ≤ t.unread.length + 1 := by
  cases it
  · exact Nat.le_add_right _ _
  · exact Nat.le_add_right _ _
  · show (t.unread ++ [_]).length ≤ _; rw [List.length_append]; exact Nat.le_refl _
theorem come_wanted (t : Tk) (it : It) : (t.come it).wanted = moved t.wanted 1 := by cases it <;> rfl
section
variable {P : Program} {w : World} {K : PySem.W.Frag} {mg : Str → Option Value} {base : Heap}
theorem ok_Taker_take (S : Says K mg) (F_Taker_wants : Mt P w K mg base 2 "Taker" "wants" ["self"] (spTWants K)) (F_moved : Fn P w K mg base 2 "moved" ["number", "by", "size"] spMoved) (F_far : Fn P w K mg base 2 "far" ["one", "other", "size"] spFar) (F_Taker_come_ready : Mt P w K mg base 3 "Taker" "come_ready" ["self", "item"] (spTCome K)) : Mt P w K mg base 4 "Taker" "take" ["self", "number", "items"] (spTTake K) := by
  obtain ⟨fd, F⟩ := S.u_Taker_take
  have sc : FnScope ["self", "number", "items", "wanted", "free", "step", "item", "place"] ["self", "number", "items"] (defScope s_Taker_take) := ⟨rfl, rfl, rfl, by decide +kernel, rfl, by decide +kernel, by decide +kernel⟩
  refine ⟨⟨fd, F.ok sc (fun vs H Q E h => ?_) (fun cdv A outer s H vs Q E hr h => ⟨_, PSs.nox (pss_cons (ps_if (pt_val (pe_fld (pv 0) rfl)) (pss_one ps_retN) pss_nil)
      (pss_cons (ps_asg (pe_mt0 (pv 0) F_Taker_wants (hr.mono (by decide))) (pg_tup rfl (pgs_cons (pg_name (i := 3) sc.nd rfl (Or.inl rfl)) (pgs_cons (pg_name (i := 4) sc.nd rfl (Or.inl rfl)) pgs_nil))))
      (pss_cons (ps_for PassesOwn.never rfl (pi_enumT rfl S.f_enumerate (pa_cons (pv 2) pa_nil)) (pg_tup rfl (pgs_cons (pg_name (i := 5) sc.nd rfl (Or.inl rfl)) (pgs_cons (pg_name (i := 6) sc.nd rfl (Or.inl rfl)) pgs_nil))) (pss_cons (ps_set (i := 7) sc.nd rfl (Or.inl rfl) (pe_fn F_moved (hr.mono (by decide)) (pa_cons (pv 1) (pa_cons (pv 5) (pa_cons (pe_gi S.i_SIZE_takers) pa_nil)))))
      (pss_one (ps_if (PW.pt (pw_and (pt_cmpR op_lt (pe_fn F_far (hr.mono (by decide)) (pa_cons (pv 3) (pa_cons (pv 7) (pa_cons (pe_gi S.i_SIZE_takers) pa_nil)))) (pv 4) (nomark _)) (pw_and1 (pt_cmp (pc_dnotin (hu_of hr) (pv 7) (pe_fld (pv 0) rfl)))))) (pss_one (ps_dput (hu_of hr) (pe_fld (pv 0) rfl) (pv 7) (pv 6) rfl)) pss_nil))))
      (pss_one (ps_while PassesOwn.never (PW.pt (pw_and (pt_cmp (pc_din (hu_of hr) (pe_fld (pv 0) rfl) (pe_fld (pv 0) rfl))) (pw_and1 (pt_not (pt_val (pe_fld (pv 0) rfl)))))) (pss_one (ps_expr (pe_mt (pv 0) F_Taker_come_ready (hr.mono (by decide)) (pa_cons (pe_dpop1 (pe_fld (pv 0) rfl) (pe_fld (pv 0) rfl) ⟨rfl, rfl, rfl, rfl⟩) pa_nil))))))))), ?_⟩), F.bindsN (fun _ _ _ _ _ _ us hl => match us, hl with | [_, _, _], _ => rfl)⟩, S.c_Taker, S.m_Taker_take⟩
  · obtain ⟨_, _, _, _, _, _, _, rfl, _⟩ := h
    rfl
  · obtain ⟨a, d, u, num, r, t, items, rfl, T, hr0, hn, hw, hu, ha, hi, hl, k⟩ := h
    cases ho : t.over with
    | true =>
      refine sq_yes (ans_val (val_to (val_obj (val_var rfl) T.ob S.c_Taker S.n_Taker_over tf_over) (by rw [ho]))) ?_
      refine k d u H (.inl rfl) ?_ (Fr.refl _ _)
      unfold Tk.take
      rw [if_pos ho]
      exact T
    | false =>
      refine sq_no (ans_val (val_to (val_obj (val_var rfl) T.ob S.c_Taker S.n_Taker_over tf_over) (by rw [ho]))) ?_
      refine sq_tup (ex_mt (val_var rfl) T.ob (by kernel_rfl) arg_nil ⟨a, d, u, t, rfl, T, hu, fun b H1 hb s1 h1 => g2 h1 ?_⟩)
      replace T := T.same s1
      replace hr1 := s1 _ _ hr0
      have F1 := Fr.same (F := [a, d]) s1
      have had := T.ad
      refine sq_enum (val_var rfl) hr1 (fun i σ' H' => ∃ (s5 s6 s7 : Option V), σ' = (((((L2.start ["self", "number", "items", "wanted", "free", "step", "item", "place"] [V.ref a, V.int num, V.ref r]).set 3 (some (.int t.wanted))).set 4 (some (.int t.free))).set 5 s5).set 6 s6).set 7 s7 ∧ TakerU K H' a d u { t with ahead := lay t.wanted t.free num 0 (items.take i) t.ahead } ∧ Fr [a, d] H H')
        ⟨none, none, none, rfl, by simpa [lay] using T, F1⟩ ?_ ?_ ?_
      · rintro i σ' H' hi ⟨s5, s6, s7, rfl, T1, F2⟩
        exact (F2 _ _ hr0 (by simp [(T.ob.tup hr1).symm, (ne_of T.ah hr1 fun q => nomatch q).symm]))
      · rintro i x σ' H' Tt hi2 hy ⟨s5, s6, s7, rfl, T1, F2⟩ hTt
        have hi3 : i < items.length := by rw [List.length_map] at hi2; exact hi2
        obtain ⟨it, hit, rfl⟩ := map_get hy
        refine g2 upd_same ?_
        replace T1 := T1.same (Same.new (o := .tup [.int (i : Nat), it.v]) hTt)
        replace F2 := F2.trans (Fr.new (o := .tup [.int (i : Nat), it.v]) hTt)
        generalize upd H' Tt _ = H3 at *
        have hll := lay_len t.wanted t.free num (items.take i) 0 t.ahead
        rw [List.length_take] at hll
        have hlt := lay_take t.wanted t.free num items 0 i t.ahead it hit
        rw [Nat.zero_add] at hlt
        have hvv := valV_kvs (lay t.wanted t.free num 0 (items.take i) t.ahead) (moved num i)
        refine sq_av (val_fn (arg_cons (val_var rfl) (arg_cons (val_var rfl) (arg_cons val_c arg_nil))) fun Q q => ⟨num, i, _, rfl, rfl, hn, by rw [moved_int]; exact q⟩) ?_
        generalize hA : lay t.wanted t.free num 0 (items.take i) t.ahead = A at *
        have hfar : ∀ σ : L2.St, σ[3]? = some (some (.int t.wanted)) → σ[7]? = some (some (.int (moved num i : Nat))) → Val (tCall spFar [] E0 (tCons (tVar 3) (tCons (tVar 7) (tCons (tC (.int 4294967296)) tNil)))) σ H3 (.int (far t.wanted (moved num i) : Nat)) := fun σ h1 h2 => val_fn (arg_cons (val_var h1) (arg_cons (val_var h2) (arg_cons val_c arg_nil))) fun Q q => ⟨_, _, _, rfl, rfl, hw, moved_lt _ _, q⟩
        by_cases c1 : far t.wanted (moved num i) < t.free
        · cases c2 : aget A (moved num i) with
          | none =>
            rw [c2] at hvv
            refine st_yes (ans_and (ans_rI0 (hfar _ rfl rfl) (val_var rfl) (by exact congrArg V.bl (decide_eq_true (by first | omega | (dsimp only; omega))))) (ans_val (val_to (val_dnin (val_var rfl) (val_obj (val_var rfl) T1.ob S.c_Taker S.n_Taker_ahead tf_ahead) T1.ah rfl) (by rw [hvv]; rfl)))) ?_
            refine st_dput (k := .inl ((moved num i : Nat) : Int)) (val_var rfl) (val_obj (val_var rfl) T1.ob S.c_Taker S.n_Taker_ahead tf_ahead) (val_var rfl) T1.ah rfl ?_ ?_
            · show (kvs A).length < _; unfold kvs; rw [List.length_map, sizeLine_eq]; omega
            · rw [show putK (kvs A) (.inl ((moved num i : Nat) : Int)) it.v = kvs (A ++ [(moved num i, it)]) from putK_kvs c2]
              refine ⟨_, _, _, rfl, ⟨T1.ob.fr Fr.up (by simp [had]), ?_, ?_⟩, F2.trans (Fr.up.mono (by simp))⟩
              · rw [upd_same, hlt, layOne_pos ⟨c1, c2⟩]
              · rw [upd_ne T.du.symm]; exact T1.un
          | some j =>
            rw [c2] at hvv
            refine st_no (ans_and (ans_rI0 (hfar _ rfl rfl) (val_var rfl) (by exact congrArg V.bl (decide_eq_true (by first | omega | (dsimp only; omega))))) (ans_val (val_to (val_dnin (val_var rfl) (val_obj (val_var rfl) T1.ob S.c_Taker S.n_Taker_ahead tf_ahead) T1.ah rfl) (by rw [hvv]; rfl)))) ?_
            refine st_next ⟨_, _, _, rfl, ?_, F2⟩
            rw [hlt, layOne_neg (fun q => by rw [c2] at q; cases q.2)]
            exact T1
        · refine st_no (ans_and0 (ans_rI0 (hfar _ rfl rfl) (val_var rfl) (by exact congrArg V.bl (decide_eq_false (by first | omega | (dsimp only; omega)))))) ?_
          refine st_next ⟨_, _, _, rfl, ?_, F2⟩
          rw [hlt, layOne_neg (fun q => c1 q.1)]
          exact T1
      · rintro σ' H' ⟨s5, s6, s7, rfl, T1, F2⟩
        rw [List.length_map, List.take_of_length_le (Nat.le_refl _)] at T1
        have et : t.take num items = (t.laid num items).run (t.laid num items).ahead.length := by unfold Tk.take; rw [if_neg (by rw [ho]; decide)]
        have T1 : TakerU K H' a d u (t.laid num items) := T1
        rw [et] at k
        have hl0 : ∀ z : Nat, (t.laid num items).unread.length ≤ 128 := fun _ => hu
        refine st_while2 (fun m σ' H' => ∃ (d' u' : Addr) (t' : Tk) (s5 s6 s7 : Option V), σ' = (((((L2.start ["self", "number", "items", "wanted", "free", "step", "item", "place"] [V.ref a, V.int num, V.ref r]).set 3 (some (.int t.wanted))).set 4 (some (.int t.free))).set 5 s5).set 6 s6).set 7 s7 ∧ t'.ahead.length ≤ m ∧ t'.wanted < 4294967296 ∧ t'.unread.length + m ≤ 128 + (t.laid num items).ahead.length ∧ t'.run m = (t.laid num items).run (t.laid num items).ahead.length ∧
          (d' = d ∨ H d' = none) ∧ TakerU K H' a d' u' t' ∧ Fr [a, d] H H') (t.laid num items).ahead.length ⟨d, u, _, s5, s6, s7, rfl, Nat.le_refl _, hw, by have := hl0 0; omega, rfl, .inl rfl, T1, F2⟩ ?_
        rintro m σ' H2 ⟨d', u', t', s5, s6, s7, rfl, q1, q2, q3, q4, q5, T2, F3⟩
        have hvv := valV_kvs t'.ahead t'.wanted
        cases hg : aget t'.ahead t'.wanted with
        | none =>
          rw [hg] at hvv
          refine ⟨false, ans_and0 (ans_val (val_to (val_din (k := .inl (t'.wanted : Int)) (val_obj (val_var rfl) T2.ob S.c_Taker S.n_Taker_wanted tf_wanted) (val_obj (val_var rfl) T2.ob S.c_Taker S.n_Taker_ahead tf_ahead) T2.ah rfl) (by rw [hvv]; rfl))), fun h => absurd h (by decide), fun _ => k d' u' H2 q5 ?_ F3⟩
          rw [← q4]
          cases m with
          | zero => exact T2
          | succ m => cases ho2 : t'.over with
            | true => rw [run_over _ ho2]; exact T2
            | false => rw [run_none _ ho2 hg]; exact T2
        | some it =>
          rw [hg] at hvv
          have hin : Val (tDIn (tFld K (tVar 0) "wanted") (tFld K (tVar 0) "ahead")) ((((((L2.start ["self", "number", "items", "wanted", "free", "step", "item", "place"] [V.ref a, V.int num, V.ref r]).set 3 (some (.int t.wanted))).set 4 (some (.int t.free))).set 5 s5).set 6 s6).set 7 s7) H2 (.bl true) := val_to (val_din (k := .inl (t'.wanted : Int)) (val_obj (val_var rfl) T2.ob S.c_Taker S.n_Taker_wanted tf_wanted) (val_obj (val_var rfl) T2.ob S.c_Taker S.n_Taker_ahead tf_ahead) T2.ah rfl) (by rw [hvv]; rfl)
          refine ⟨!t'.over, ans_and (ans_val hin) (ans_not (ans_val (val_obj (val_var rfl) T2.ob S.c_Taker S.n_Taker_over tf_over))), fun hb N q => ?_, fun hb => k d' u' H2 q5 ?_ F3⟩
          · have ho2 : t'.over = false := by simpa using hb
            have hlt := adrop_length (aget_mem hg)
            obtain ⟨m, rfl⟩ : ∃ m', m = m' + 1 := ⟨m - 1, by omega⟩
            rw [run_some m ho2 hg] at q4
            refine st_dr (ex_mte (val_var rfl) T2.ob (by kernel_rfl) (ex_ce (ex_dpop (k := .inl (t'.wanted : Int)) (v := it.v) (val_obj (val_var rfl) T2.ob S.c_Taker S.n_Taker_ahead tf_ahead) (val_obj (val_var rfl) T2.ob S.c_Taker S.n_Taker_wanted tf_wanted) T2.ah rfl (by rw [hvv]; rfl) (ta_nil ?_))))
            have T3 : TakerU K (upd H2 d' (.dK (kvs (adrop t'.ahead t'.wanted)))) a d' u' { t' with ahead := adrop t'.ahead t'.wanted } := ⟨T2.ob.fr Fr.up (by simp [T2.ad]), upd_same, by rw [upd_ne T2.du.symm]; exact T2.un⟩
            rw [dropK_kvs]
            refine ⟨a, d', u', _, it, rfl, T3, q2, by dsimp only; omega, fun d2 u2 H4 hd2 T4 F4 => ?_⟩
            refine q m _ _ (Nat.lt_succ_self m) ⟨d2, u2, _, s5, s6, s7, rfl, ?_, ?_, ?_, q4, ?_, T4, ?_⟩
            · rcases come_ahead { t' with ahead := adrop t'.ahead t'.wanted } it with e | e
              · rw [e]; exact Nat.zero_le _
              · rw [e]; dsimp only; omega
            · rw [come_wanted]; exact moved_lt _ _
            · have := come_unread { t' with ahead := adrop t'.ahead t'.wanted } it
              dsimp only at this
              omega
            · rcases hd2 with e | e
              · rw [e]; exact q5
              · by_cases c : d2 = d
                · exact .inl c
                · by_cases c2 : d2 = d'
                  · rw [c2]; exact q5
                  · rw [upd_ne c2] at e
                    exact .inr ((F3.free e).resolve_right (by simp [c, T2.ob.nn e]))
            · refine ((F3.on (F := [a, d, d']) (Fr.up (a := d') (o := .dK (kvs (adrop t'.ahead t'.wanted))))).on (F := [a, d, d']) F4).clean ?_
              intro b hb
              rcases q5 with e | e
              · rw [e] at hb; exact .inl (by simpa using hb)
              · by_cases c : b = d'
                · rw [c]; exact .inr e
                · exact .inl (by simpa [c] using hb)
          · have ho2 : t'.over = true := by simpa using hb
            rw [← q4]
            cases m with
            | zero => exact T2
            | succ m => rw [run_over _ ho2]; exact T2
end
end SW
end
section
set_option maxRecDepth 100000
set_option maxHeartbeats 4000000
/-! Tuples and lists compared. -/
namespace SW
open PySem PySem.Spec PyProof.Rows L2
def sc : V → Bool
  | .non => true
  | .int _ => true
  | .str x => PyData.strOk x
  | _ => false
def toD : V → PyData
  | .int i => .int i
  | .str x => .str x
  | .bl b => .bool b
  | _ => .none
theorem dp_sc {K : PySem.W.Frag} {H : Hp} {v : V} (h : sc v = true) : Dp K H v (toD v) := by
  cases v with
  | non => exact .non
  | int i => exact .int i
  | str x => exact .str x
  | _ => cases h
theorem dps_sc {K : PySem.W.Frag} {H : Hp} : ∀ {vs : List V}, (∀ v ∈ vs, sc v = true) → DpAll K H vs (vs.map toD)
  | [], _ => .nil
  | v :: vs, h => .cons (dp_sc (h v (by simp))) (dps_sc fun x hx => h x (by simp [hx]))
theorem eqv_sc {v u : V} (h : sc v = true) (h2 : sc u = true) : PyData.eqv (toD v) (toD u) = decide (v = u) := by
  cases v with
  | non => cases u with
    | non => rfl
    | int j => exact (decide_eq_false (fun q => nomatch q)).symm
    | str y => exact (decide_eq_false (fun q => nomatch q)).symm
    | _ => cases h2
  | int i => cases u with
    | non => exact (decide_eq_false (fun q => nomatch q)).symm
    | int j =>
      show (i == j) = _
      rw [Bool.eq_iff_iff, beq_iff_eq, decide_eq_true_iff]
      exact ⟨fun e => by rw [e], fun e => V.int.inj e⟩
    | str y => exact (decide_eq_false (fun q => nomatch q)).symm
    | _ => cases h2
  | str x => cases u with
    | non => exact (decide_eq_false (fun q => nomatch q)).symm
    | int j => exact (decide_eq_false (fun q => nomatch q)).symm
    | str y =>
      show (x == y) = _
      rw [Bool.eq_iff_iff, beq_iff_eq, decide_eq_true_iff]
      exact ⟨fun e => by rw [e], fun e => V.str.inj e⟩
    | _ => cases h2
  | _ => cases h
theorem eqvAll_sc : ∀ {vs us : List V}, (∀ v ∈ vs, sc v = true) → (∀ v ∈ us, sc v = true) → PyData.eqvAll (vs.map toD) (us.map toD) = decide (vs = us)
  | [], [], _, _ => rfl
  | [], _ :: _, _, _ => rfl
  | _ :: _, [], _, _ => rfl
  | v :: vs, u :: us, h, h2 => by
    show (PyData.eqv (toD v) (toD u) && PyData.eqvAll (vs.map toD) (us.map toD)) = _
    rw [eqv_sc (h v (by simp)) (h2 u (by simp)), eqvAll_sc (fun x hx => h x (by simp [hx])) (fun x hx => h2 x (by simp [hx])), ← Bool.decide_and]
    exact decide_eq_decide.mpr (by rw [List.cons.injEq])
theorem lay_sc : ∀ {vs : List V}, (∀ v ∈ vs, sc v = true) → PyData.canLayAll0 (vs.map toD) = true
  | [], _ => rfl
  | v :: vs, h => by
    show (PyData.canLay0 (toD v) && PyData.canLayAll0 (vs.map toD)) = true
    rw [lay_sc fun x hx => h x (by simp [hx]), Bool.and_true]
    have := h v (by simp)
    cases v <;> first | rfl | exact this | cases this
theorem depth_sc : ∀ v : V, PyData.depth (toD v) = 0 := fun v => by cases v <;> rfl
theorem depths_sc : ∀ vs : List V, PyData.depthAll (vs.map toD) = 0
  | [] => rfl
  | v :: vs => by
    show max (PyData.depth (toD v)) (PyData.depthAll (vs.map toD)) = 0
    rw [depth_sc, depths_sc vs]
    rfl
theorem shaped_tup {vs : List V} (h : ∀ v ∈ vs, sc v = true) : SeqAt.shaped (.tuple (vs.map toD)) = true := by
  show (PyData.canLayAll0 (vs.map toD) && decide (PyData.depthAll (vs.map toD) + 1 ≤ 64)) = true
  rw [lay_sc h, depths_sc]
  rfl
theorem shaped_lst {vs : List V} (h : ∀ v ∈ vs, sc v = true) : SeqAt.shaped (.list (vs.map toD)) = true := by
  show (PyData.canLayAll0 (vs.map toD) && decide (PyData.depthAll (vs.map toD) + 1 ≤ 64)) = true
  rw [lay_sc h, depths_sc]
  rfl
section
variable {K : PySem.W.Frag} {H : Hp} {a b : Addr} {xs ys : List V} {Q : VK}
theorem eq_tt (ha : H a = some (.tup xs)) (hb : H b = some (.tup ys)) (h1 : ∀ v ∈ xs, sc v = true) (h2 : ∀ v ∈ ys, sc v = true) (q : Q (.bl (decide (xs = ys))) H) : rEqD K (.ref a) (.ref b) H Q :=
  ⟨_, _, .tup (SqT.of ha) (dps_sc h1), .tup (SqT.of hb) (dps_sc h2), shaped_tup h1, shaped_tup h2, by rw [← eqvAll_sc h1 h2] at q; exact q⟩
theorem ne_tt (ha : H a = some (.tup xs)) (hb : H b = some (.tup ys)) (h1 : ∀ v ∈ xs, sc v = true) (h2 : ∀ v ∈ ys, sc v = true) (q : Q (.bl (!decide (xs = ys))) H) : rNeD K (.ref a) (.ref b) H Q :=
  ⟨_, _, .tup (SqT.of ha) (dps_sc h1), .tup (SqT.of hb) (dps_sc h2), shaped_tup h1, shaped_tup h2, by rw [← eqvAll_sc h1 h2] at q; exact q⟩
theorem eq_ll (ha : H a = some (.lst xs)) (hb : H b = some (.lst ys)) (h1 : ∀ v ∈ xs, sc v = true) (h2 : ∀ v ∈ ys, sc v = true) (q : Q (.bl (decide (xs = ys))) H) : rEqD K (.ref a) (.ref b) H Q :=
  ⟨_, _, .lst (SqL.of ha) (dps_sc h1), .lst (SqL.of hb) (dps_sc h2), shaped_lst h1, shaped_lst h2, by rw [← eqvAll_sc h1 h2] at q; exact q⟩
end
theorem sc_nV {ns : List Nat} : ∀ v ∈ ns.map nV, sc v = true := fun v h => by
  obtain ⟨n, _, rfl⟩ := List.mem_map.mp h
  rfl
theorem sc_it {l : List It} : ∀ v ∈ l.map It.v, sc v = true := fun v h => by
  obtain ⟨n, _, rfl⟩ := List.mem_map.mp h
  cases n
  · decide +kernel
  · decide +kernel
  · rfl
end SW
end
section
set_option maxRecDepth 100000
set_option maxHeartbeats 4000000
/-! Talk: how it stands; what only looks. -/
namespace SW
open PySem PySem.Spec PyProof.Rows L2
/-- the addresses of a talk's parts: giver, its list, taker, its dict -/
structure Nm where
  g : Addr
  lk : Addr
  ta : Addr
  d : Addr
def Nm.all (n : Nm) (a : Addr) : List Addr := [a, n.g, n.lk, n.ta, n.d]
/-- the taker's field and what stands there -/
def TkV (K : PySem.W.Frag) (H : Hp) (a : Addr) (n : Nm) (tv : V) : Option Tk → Prop
  | none => tv = .non ∧ n.ta = a ∧ n.d = a
  | some t => tv = .ref n.ta ∧ ∃ u, TakerU K H n.ta n.d u t
structure TalkV (K : PySem.W.Frag) (H : Hp) (a : Addr) (n : Nm) (tl : Tl) (tv : V) : Prop where
  ob : ObjAt (He.ga K "Talk") H a (kf tl n.g tv)
  gv : GiverAt K H n.g n.lk tl.g
  tk : TkV K H a n tv tl.t
def TalkAt (K : PySem.W.Frag) (H : Hp) (a : Addr) (n : Nm) (tl : Tl) : Prop := ∃ tv, TalkV K H a n tl tv
theorem TkV.same {K : PySem.W.Frag} {H H' : Hp} {a : Addr} {n : Nm} {tv : V} {o : Option Tk} (h : TkV K H a n tv o) (f : Same H H') : TkV K H' a n tv o := by
  cases o with
  | none => exact h
  | some t =>
    obtain ⟨e, u, h⟩ := h
    exact ⟨e, u, h.same f⟩
theorem TalkV.same {K : PySem.W.Frag} {H H' : Hp} {a : Addr} {n : Nm} {tl : Tl} {tv : V} (h : TalkV K H a n tl tv) (f : Same H H') : TalkV K H' a n tl tv := ⟨h.ob.same f, h.gv.same f, h.tk.same f⟩
theorem TalkAt.same {K : PySem.W.Frag} {H H' : Hp} {a : Addr} {n : Nm} {tl : Tl} (h : TalkAt K H a n tl) (f : Same H H') : TalkAt K H' a n tl := by
  obtain ⟨tv, h⟩ := h
  exact ⟨tv, h.same f⟩
theorem TalkV.ag {K : PySem.W.Frag} {H : Hp} {a : Addr} {n : Nm} {tl : Tl} {tv : V} (h : TalkV K H a n tl tv) : a ≠ n.g := h.ob.ins h.gv.ob (by show (10 : Nat) ≠ 13; decide)
theorem TalkV.al {K : PySem.W.Frag} {H : Hp} {a : Addr} {n : Nm} {tl : Tl} {tv : V} (h : TalkV K H a n tl tv) : a ≠ n.lk := h.ob.lst h.gv.kp
/-- what changed: the talk's own, or new -/
structure Stp (H H' : Hp) (a : Addr) (n n' : Nm) : Prop where
  kn : ∀ b ∈ n'.all a, b ∈ n.all a ∨ H b = none
  fr : Fr (n.all a) H H'
theorem Stp.refl (H : Hp) (a : Addr) (n : Nm) : Stp H H a n n := ⟨fun b h => .inl h, Fr.refl _ _⟩
theorem Stp.same {H H' : Hp} {a : Addr} {n : Nm} (s : Same H H') : Stp H H' a n n := ⟨fun b h => .inl h, Fr.same s⟩
theorem Stp.trans {H H1 H2 : Hp} {a : Addr} {n n1 n2 : Nm} (s : Stp H H1 a n n1) (t : Stp H1 H2 a n1 n2) : Stp H H2 a n n2 := by
  refine ⟨fun b hb => ?_, fun b o e hb => ?_⟩
  · rcases t.kn b hb with h | h
    · exact s.kn b h
    · rcases s.fr.free h with h | h
      · exact .inr h
      · exact .inl h
  · refine t.fr b o (s.fr b o e hb) fun q => ?_
    rcases s.kn b q with h | h
    · exact hb h
    · rw [h] at e; cases e
/-- a store on the talk's own -/
theorem Stp.fr1 {H H' : Hp} {F : List Addr} {a : Addr} {n : Nm} (f : Fr F H H') (h : ∀ b ∈ F, b ∈ n.all a := by simp [Nm.all]) : Stp H H' a n n := ⟨fun b h => .inl h, f.mono h⟩
theorem TkV.fr {K : PySem.W.Frag} {F : List Addr} {H H' : Hp} {a : Addr} {n : Nm} {tv : V} {o : Option Tk} (h : TkV K H a n tv o) (f : Fr F H H') (n1 : o.isSome = true → n.ta ∉ F ∧ n.d ∉ F) (n3 : ∀ b ∈ F, ∀ xs, H b ≠ some (.tup xs)) : TkV K H' a n tv o := by
  cases o with
  | none => exact h
  | some t =>
    obtain ⟨e, u, h⟩ := h
    exact ⟨e, u, h.fr f (n1 rfl).1 (n1 rfl).2 n3⟩
theorem TalkV.tn {K : PySem.W.Frag} {H : Hp} {a : Addr} {n : Nm} {tl : Tl} {tv : V} (h : TalkV K H a n tl tv) (hs : tl.t.isSome = true) : n.ta ≠ a ∧ n.ta ≠ n.g ∧ n.ta ≠ n.lk ∧ n.d ≠ a ∧ n.d ≠ n.g ∧ n.d ≠ n.lk := by
  have tk := h.tk
  cases e : tl.t with
  | none => rw [e] at hs; cases hs
  | some t =>
    rw [e] at tk
    obtain ⟨_, u, T⟩ := tk
    exact ⟨T.ob.ins h.ob (by show (5 : Nat) ≠ 10; decide), T.ob.ins h.gv.ob (by show (5 : Nat) ≠ 13; decide), T.ob.lst h.gv.kp, (h.ob.dK T.ah).symm, (h.gv.ob.dK T.ah).symm, ne_of T.ah h.gv.kp fun q => nomatch q⟩
theorem TalkV.gn {K : PySem.W.Frag} {H : Hp} {a : Addr} {n : Nm} {tl : Tl} {tv : V} (h : TalkV K H a n tl tv) : n.g ≠ n.lk := h.gv.ne
theorem TalkV.nt {K : PySem.W.Frag} {H : Hp} {a : Addr} {n : Nm} {tl : Tl} {tv : V} (h : TalkV K H a n tl tv) : ∀ b ∈ n.all a, ∀ xs, H b ≠ some (.tup xs) := by
  have h1 := h.ob.nt
  have h2 := h.gv.ob.nt
  have h3 : ∀ xs, H n.lk ≠ some (.tup xs) := fun xs e => by rw [h.gv.kp] at e; cases e
  have tk := h.tk
  unfold Nm.all
  simp only [List.mem_cons, List.not_mem_nil, or_false, forall_eq_or_imp, forall_eq]
  cases e : tl.t with
  | none =>
    rw [e] at tk
    rw [tk.2.1, tk.2.2]
    exact ⟨h1, h2, h3, h1, h1⟩
  | some t =>
    rw [e] at tk
    obtain ⟨_, u, T⟩ := tk
    exact ⟨h1, h2, h3, T.ob.nt, fun xs e => by rw [T.ah] at e; cases e⟩
/-- a store on the talk's own fields -/
theorem TalkV.own {K : PySem.W.Frag} {H H' : Hp} {a : Addr} {n : Nm} {tl tl' : Tl} {tv : V} (h : TalkV K H a n tl tv) (o : ObjAt (He.ga K "Talk") H' a (kf tl' n.g tv)) (f : Fr [a] H H') (hg : tl'.g = tl.g := by rfl) (ht : tl'.t = tl.t := by rfl) : TalkV K H' a n tl' tv :=
  ⟨o, by rw [hg]; exact h.gv.fr f (by simp [h.ag.symm]) (by simp [h.al.symm]), by
    rw [ht]
    exact h.tk.fr f (fun s => by simp [(h.tn s).1, (h.tn s).2.2.2.1]) (by simp only [List.mem_singleton, forall_eq]; exact h.ob.nt)⟩
def standS : Stand → Str
  | .cut => "cut"
  | .gone => "gone"
  | .calls => "calls"
  | .answers => "answers"
  | .rests => "rests"
  | .closed => "closed"
  | .left => "left"
  | .ends => "ends"
  | .opn => "open"
def spKOpen (K : PySem.W.Frag) : Sp := fun vs H Q _ => ∃ (a : Addr) (n : Nm) (tl : Tl), vs = [.ref a] ∧ TalkAt K H a n tl ∧ Q (.bl tl.isOpen) H
/-- what an open talk has -/
def Tl.okS (tl : Tl) : Prop := (tl.isOpen = true → tl.t.isSome = true)
def spKStand (K : PySem.W.Frag) : Sp := fun vs H Q _ => ∃ (a : Addr) (n : Nm) (tl : Tl), vs = [.ref a] ∧ TalkAt K H a n tl ∧ tl.okS ∧ Q (.str (standS tl.stand)) H
def spKOver (K : PySem.W.Frag) : Sp := fun vs H Q _ => ∃ (a : Addr) (n : Nm) (tl : Tl), vs = [.ref a] ∧ TalkAt K H a n tl ∧ tl.okS ∧ ∀ H', Same H H' → Q (.bl tl.isOver) H'
def spKPass (K : PySem.W.Frag) : Sp := fun vs H Q _ => ∃ (a : Addr) (n : Nm) (tl : Tl) (t : Nat) (tv : V), vs = [.ref a, .int t] ∧ TalkV K H a n tl tv ∧ tl.last ≤ t ∧ ∀ H', TalkV K H' a n (tl.at_ t) tv → Fr [a] H H' → Q .non H'
def spKAnswer (K : PySem.W.Frag) : Sp := fun vs H Q _ => ∃ (a : Addr) (n : Nm) (tl : Tl) (ans : Nat), vs = [.ref a, .int ans] ∧ TalkAt K H a n tl ∧ tl.first < 4294967296 ∧ tl.g.base < 4294967296 ∧ ans < 4294967296 ∧ Q (.bl (tl.isAnswer ans)) H
def spKCutBy (K : PySem.W.Frag) : Sp := fun vs H Q _ => ∃ (a : Addr) (n : Nm) (tl : Tl) (b u : Addr) (s : Sg), vs = [.ref a, .ref b] ∧ TalkAt K H a n tl ∧ SegU K H b u s ∧ s.number < 4294967296 ∧ (∀ t, tl.t = some t → t.wanted < 4294967296 ∧ t.unread.length ≤ 128) ∧ ∀ H', Same H H' → Q (.bl (tl.isCutBy s)) H'
theorem end_s : ∀ e : Ending, (!decide (V.str (endS e) = V.str "")) = decide (e ≠ .no) := by intro e; cases e <;> decide +kernel
section
variable {P : Program} {w : World} {K : PySem.W.Frag} {mg : Str → Option Value} {base : Heap}
theorem ok_Talk_is_open (S : Says K mg) (F_Giver_answered : Mt P w K mg base 1 "Giver" "answered" ["self"] (spGAnswered K)) : Mt P w K mg base 2 "Talk" "is_open" ["self"] (spKOpen K) := by
  obtain ⟨fd, F⟩ := S.u_Talk_is_open
  have sc : FnScope ["self"] ["self"] (defScope s_Talk_is_open) := ⟨rfl, rfl, rfl, by decide +kernel, rfl, by decide +kernel, by decide +kernel⟩
  refine ⟨⟨fd, F.ok sc (fun vs H Q E h => ?_) (fun cdv A outer s H vs Q E hr h => ⟨_, PSs.nox (pss_one (ps_ret (pe_cmpR op_gt (pe_mt0 (pe_fld (pv 0) rfl) F_Giver_answered (hr.mono (by decide))) pe_int (nomark _)))), ?_⟩), F.bindsN (fun _ _ _ _ _ _ us hl => match us, hl with | [_], _ => rfl)⟩, S.c_Talk, S.m_Talk_is_open⟩
  · obtain ⟨_, _, _, rfl, _⟩ := h
    rfl
  · obtain ⟨a, n, tl, rfl, ⟨tv, KT⟩, k⟩ := h
    refine st_ret (val_to (val_rI0 (val_mt (val_obj (val_var rfl) KT.ob S.c_Talk S.n_Talk_giver kf_giver) KT.gv.ob (by kernel_rfl) arg_nil fun Q q => ⟨_, _, _, rfl, KT.gv, q⟩) val_c) ?_) k
    exact congrArg V.bl (decide_eq_decide.mpr (by omega))
theorem ok_Talk_pass_to (S : Says K mg) (F_need_tick : Fn P w K mg base 1 "need_tick" ["tick", "last"] spNeedTick) : Mt P w K mg base 2 "Talk" "pass_to" ["self", "tick"] (spKPass K) := by
  obtain ⟨fd, F⟩ := S.u_Talk_pass_to
  have sc : FnScope ["self", "tick"] ["self", "tick"] (defScope s_Talk_pass_to) := ⟨rfl, rfl, rfl, by decide +kernel, rfl, by decide +kernel, by decide +kernel⟩
  refine ⟨⟨fd, F.ok sc (fun vs H Q E h => ?_) (fun cdv A outer s H vs Q E hr h => ⟨_, PSs.nox (pss_cons (ps_expr (pe_fn F_need_tick (hr.mono (by decide)) (pa_cons (pv 1) (pa_cons (pe_fld (pv 0) rfl) pa_nil))))
      (pss_one (ps_fld (pv 0) (pv 1) rfl))), ?_⟩), F.bindsN (fun _ _ _ _ _ _ us hl => match us, hl with | [_, _], _ => rfl)⟩, S.c_Talk, S.m_Talk_pass_to⟩
  · obtain ⟨_, _, _, _, _, rfl, _⟩ := h
    rfl
  · obtain ⟨a, n, tl, t, tv, rfl, KT, ht, k⟩ := h
    refine sq_dr (ex_fn (arg_cons (val_var rfl) (arg_cons (val_obj (val_var rfl) KT.ob S.c_Talk S.n_Talk_last_tick kf_last_tick) arg_nil)) ⟨_, _, rfl, by omega, ?_⟩)
    exact st_obj (val_var rfl) (val_var rfl) KT.ob S.c_Talk S.n_Talk_last_tick kf_few (kp_last_tick t) fun H' o f => k H' (KT.own o f) f
theorem ok_Talk_stand (S : Says K mg) (F_Talk_is_open : Mt P w K mg base 2 "Talk" "is_open" ["self"] (spKOpen K)) (F_Taker_ended : Mt P w K mg base 1 "Taker" "ended" ["self"] (spTEnded K)) : Mt P w K mg base 3 "Talk" "stand" ["self"] (spKStand K) := by
  obtain ⟨fd, F⟩ := S.u_Talk_stand
  have sc : FnScope ["self"] ["self"] (defScope s_Talk_stand) := ⟨rfl, rfl, rfl, by decide +kernel, rfl, by decide +kernel, by decide +kernel⟩
  refine ⟨⟨fd, F.ok sc (fun vs H Q E h => ?_) (fun cdv A outer s H vs Q E hr h => ⟨_, PSs.nox (pss_cons (ps_if (pt_cmpR op_ne (pe_fld (pv 0) rfl) pe_str (nomark _)) (pss_one (ps_ret (pe_fld (pv 0) rfl))) pss_nil)
      (pss_cons (ps_if (pt_not (pt_val (pe_mt0 (pv 0) F_Talk_is_open (hr.mono (by decide))))) (pss_one (ps_ret (pe_ifExp (pt_cmpR op_isN (pe_fld (pv 0) rfl) pe_non (nomark _)) pe_str pe_str))) pss_nil)
      (pss_cons (ps_if (pt_cmpR op_notN (pe_fld (pv 0) rfl) pe_non (nomark _)) (pss_one (ps_ret (pe_ifExp (pt_cmpR op_lt (pe_op op_sub (pe_fld (pv 0) rfl) (pe_fld (pv 0) rfl)) (pe_gi S.i_RESTS) (nomark _)) pe_str pe_str))) pss_nil)
      (pss_cons (ps_if (pt_val (pe_mt0 (pe_fld (pv 0) rfl) F_Taker_ended (hr.mono (by decide)))) (pss_one (ps_ret pe_str)) pss_nil)
      (pss_one (ps_ret (pe_ifExp (pt_val (pe_fld (pv 0) rfl)) pe_str pe_str))))))), ?_⟩), F.bindsN (fun _ _ _ _ _ _ us hl => match us, hl with | [_], _ => rfl)⟩, S.c_Talk, S.m_Talk_stand⟩
  · obtain ⟨_, _, _, rfl, _⟩ := h
    rfl
  · obtain ⟨a, n, tl, rfl, ⟨tv, KT⟩, hok, k⟩ := h
    refine sq_if (ans_neS (val_obj (val_var rfl) KT.ob S.c_Talk S.n_Talk_ending kf_ending) val_c rfl (end_s tl.ending)) (fun he => ?_) (fun he => ?_)
    · refine st_ret (val_to (val_obj (val_var rfl) KT.ob S.c_Talk S.n_Talk_ending kf_ending) ?_) k
      have he : tl.ending ≠ .no := of_decide_eq_true he
      unfold Tl.stand
      cases e : tl.ending with
      | no => exact absurd e he
      | cut => rfl
      | gone => rfl
    · have he : tl.ending = .no := Classical.byContradiction fun q => of_decide_eq_false he q
      have hop : Ans (tNot (tB (tMeth (He.ga K "Talk") "is_open" (spKOpen K) [] E0 (tVar 0) tNil))) (L2.start ["self"] [V.ref a]) H (!tl.isOpen) := ans_not (ans_val (val_mt (val_var rfl) KT.ob (by kernel_rfl) arg_nil fun Q q => ⟨a, n, tl, rfl, ⟨tv, KT⟩, q⟩))
      have tk := KT.tk
      refine sq_if hop (fun ho => ?_) (fun ho => ?_)
      · have ho : tl.isOpen = false := by simpa using ho
        have es : tl.stand = if tl.t.isNone = true then .calls else .answers := by unfold Tl.stand; rw [he, ho]; rfl
        rw [es] at k
        cases e : tl.t with
        | none =>
          rw [e] at k tk
          refine st_rt (ex_ifT (ans_isN' (val_obj (val_var rfl) KT.ob S.c_Talk S.n_Talk_taker kf_taker) (by rw [tk.1]; rfl)) (val_c _ k))
        | some t =>
          rw [e] at k tk
          refine st_rt (ex_ifF (ans_isN' (val_obj (val_var rfl) KT.ob S.c_Talk S.n_Talk_taker kf_taker) (by rw [tk.1]; rfl)) (val_c _ k))
      · have ho : tl.isOpen = true := by simpa using ho
        have hsm := hok ho
        cases er : tl.rested with
        | some s =>
          have es : tl.stand = if tl.last < s + 120 then .rests else .closed := by unfold Tl.stand; rw [he, ho, er]; rfl
          rw [es] at k
          refine sq_yes (ans_notN' (val_to (y := .int s) (val_obj (val_var rfl) KT.ob S.c_Talk S.n_Talk_rested kf_rested) (by rw [er]; rfl)) rfl) ?_
          have hc : Ans (tTest (tOp (rI0 fun i j => V.bl (decide (i < j))) (tOp (rI0 fun i j => V.int (i - j)) (tFld K (tVar 0) "last_tick") (tFld K (tVar 0) "rested")) (tC (.int 120)))) (L2.start ["self"] [V.ref a]) H (decide (tl.last < s + 120)) := ans_rI0 (val_sub (val_obj (val_var rfl) KT.ob S.c_Talk S.n_Talk_last_tick kf_last_tick) (val_to (y := .int s) (val_obj (val_var rfl) KT.ob S.c_Talk S.n_Talk_rested kf_rested) (by rw [er]; rfl))) val_c (by exact congrArg V.bl (decide_eq_decide.mpr (by first | omega | (dsimp only; omega))))
          by_cases c : tl.last < s + 120
          · rw [if_pos c] at k
            rw [decide_eq_true c] at hc
            exact st_rt (ex_ifT hc (val_c _ k))
          · rw [if_neg c] at k
            rw [decide_eq_false c] at hc
            exact st_rt (ex_ifF hc (val_c _ k))
        | none =>
          have es : tl.stand = if tl.tover = true then .left else if tl.fin = true then .ends else .opn := by unfold Tl.stand; rw [he, ho, er]; rfl
          refine sq_no (ans_notN' (val_to (y := .non) (val_obj (val_var rfl) KT.ob S.c_Talk S.n_Talk_rested kf_rested) (by rw [er]; rfl)) rfl) ?_
          cases e : tl.t with
          | none => rw [e] at hsm; cases hsm
          | some t =>
            rw [e] at tk
            obtain ⟨rfl, u, U⟩ := tk
            have eo : tl.tover = t.over := by unfold Tl.tover; rw [e]
            rw [es, eo] at k
            refine sq_if (ans_val (val_mt (val_obj (val_var rfl) KT.ob S.c_Talk S.n_Talk_taker kf_taker) U.ob (by kernel_rfl) arg_nil fun Q q => ⟨_, _, u, t, rfl, U, q⟩)) (fun h1 => ?_) (fun h1 => ?_)
            · rw [if_pos h1] at k
              exact st_rt (val_c _ k)
            · rw [if_neg (by rw [h1]; decide)] at k
              cases hf : tl.fin with
              | true =>
                rw [hf] at k
                exact st_rt (ex_ifT (ans_val (val_to (val_obj (val_var rfl) KT.ob S.c_Talk S.n_Talk_finished kf_finished) (by rw [hf]))) (val_c _ k))
              | false =>
                rw [hf] at k
                exact st_rt (ex_ifF (ans_val (val_to (val_obj (val_var rfl) KT.ob S.c_Talk S.n_Talk_finished kf_finished) (by rw [hf]))) (val_c _ k))
theorem ok_Talk_is_over (S : Says K mg) (F_Talk_stand : Mt P w K mg base 3 "Talk" "stand" ["self"] (spKStand K)) : Mt P w K mg base 4 "Talk" "is_over" ["self"] (spKOver K) := by
  obtain ⟨fd, F⟩ := S.u_Talk_is_over
  have sc : FnScope ["self"] ["self"] (defScope s_Talk_is_over) := ⟨rfl, rfl, rfl, by decide +kernel, rfl, by decide +kernel, by decide +kernel⟩
  refine ⟨⟨fd, F.ok sc (fun vs H Q E h => ?_) (fun cdv A outer s H vs Q E hr h => ⟨_, PSs.nox (pss_one (ps_ret (pe_cmpR op_in_seq (pe_mt0 (pv 0) F_Talk_stand (hr.mono (by decide))) (pe_tup (pa_cons pe_str (pa_cons pe_str (pa_cons pe_str pa_nil)))) rfl))), ?_⟩), F.bindsN (fun _ _ _ _ _ _ us hl => match us, hl with | [_], _ => rfl)⟩, S.c_Talk, S.m_Talk_is_over⟩
  · obtain ⟨_, _, _, rfl, _⟩ := h
    rfl
  · obtain ⟨a, n, tl, rfl, KT0, hok, k⟩ := h
    obtain ⟨tv, KT⟩ := id KT0
    refine st_rt (ex_op1 (val_mt (val_var rfl) KT.ob (by kernel_rfl) arg_nil fun Q q => ⟨a, n, tl, rfl, KT0, hok, q⟩) (ex_c1 val_c (ex_c1 val_c (ex_c1 val_c (ta_nil ⟨by show 3 ≤ sizeLine; decide, fun p hp => ?_⟩)))))
    refine ⟨p, _, rfl, Or.inr (SqT.of upd_same), rfl, rfl, ?_⟩
    have e : inV (V.str (standS tl.stand)) [V.str "cut", V.str "gone", V.str "closed"] = tl.isOver := by
      unfold Tl.isOver
      generalize tl.stand = s
      cases s <;> decide +kernel
    rw [if_neg (by decide), e]
    exact k _ (Same.new hp)
end
end SW
end
section
set_option maxRecDepth 100000
set_option maxHeartbeats 4000000
/-! Talk: answers, cuts, segments made. -/
namespace SW
open PySem PySem.Spec PyProof.Rows L2
def TkFit (tl : Tl) : Prop := ∀ t, tl.t = some t → t.wanted < 4294967296 ∧ t.unread.length ≤ 128
def spKMade (K : PySem.W.Frag) : Sp := fun vs H Q _ => ∃ (a : Addr) (n : Nm) (tl : Tl) (A C E O R : Bool) (num u : Nat) (ns : List Nat), vs = [.ref a, .str (marks A C E O R), .int num, .ref u] ∧ TalkAt K H a n tl ∧ TkFit tl ∧ (A = true → tl.t.isSome = true) ∧ H u = some (.tup (ns.map nV)) ∧ SegFit (tl.made A C E O R num ns) ∧
  ∀ b H', Same H H' → SegAt K H' (.ref b) (tl.made A C E O R num ns) → Q (.ref b) H'
theorem made_end {K : PySem.W.Frag} {a u : Addr} {n : Nm} {tl : Tl} {tv : V} {A C E O R : Bool} {num an rm : Nat} {ns : List Nat} {H : Hp} {D : Ends} {σ : L2.St} (S1 : Cls K (He.ga K "Talk")) (S2 : NoAttr K (He.ga K "Talk") "here") (S3 : NoAttr K (He.ga K "Talk") "there") (T : TalkV K H a n tl tv) (hf : SegFit (tl.made A C E O R num ns)) (hu : H u = some (.tup (ns.map nV)))
    (h0 : σ[0]? = some (some (.ref a))) (h1 : σ[1]? = some (some (.str (marks A C E O R)))) (h2 : σ[2]? = some (some (.int num))) (h3 : σ[3]? = some (some (.ref u))) (h4 : σ[4]? = some (some (.int an))) (h5 : σ[5]? = some (some (.int rm)))
    (ha : (tl.made A C E O R num ns).answer = an) (hr : (tl.made A C E O R num ns).room = rm) (k : ∀ b H', Same H H' → SegAt K H' (.ref b) (tl.made A C E O R num ns) → D.rt (.ref b) H') :
    tRet (tMake (He.ga K "Segment") (spSInit K) [] E0 (tCons (tFld K (tVar 0) "here") (tCons (tFld K (tVar 0) "there") (tCons (tVar 1) (tCons (tVar 2) (tCons (tVar 4) (tCons (tVar 5) (tCons (tVar 3) tNil)))))))) D σ H := by
  subst ha hr
  refine st_rt (ex_make (arg_cons (val_obj (val_var h0) T.ob S1 S2 kf_here) (arg_cons (val_obj (val_var h0) T.ob S1 S3 kf_there) (arg_cons (val_var h1) (arg_cons (val_var h2) (arg_cons (val_var h4) (arg_cons (val_var h5) (arg_cons (val_var h3) arg_nil))))))) fun x dx hx hdx hd => ?_)
  have sm := Same.made (C := He.ga K "Segment") hx hdx hd
  refine ⟨x, u, _, rfl, hf, ⟨dx, upd_same⟩, sm _ _ hu, fun H' U f => ⟨rfl, k x H' (fun b o e => f b o (sm b o e) (by simp [ne_of_none e hx])) ⟨x, u, rfl, U⟩⟩⟩
section
variable {P : Program} {w : World} {K : PySem.W.Frag} {mg : Str → Option Value} {base : Heap}
theorem ok_Talk_is_answer (S : Says K mg) (F_moved : Fn P w K mg base 2 "moved" ["number", "by", "size"] spMoved) (F_Giver_answered : Mt P w K mg base 1 "Giver" "answered" ["self"] (spGAnswered K)) (F_far : Fn P w K mg base 2 "far" ["one", "other", "size"] spFar) (F_Giver_next_number : Mt P w K mg base 3 "Giver" "next_number" ["self"] (spGNext K)) (F_Talk_is_open : Mt P w K mg base 2 "Talk" "is_open" ["self"] (spKOpen K)) : Mt P w K mg base 4 "Talk" "is_answer" ["self", "answer"] (spKAnswer K) := by
  obtain ⟨fd, F⟩ := S.u_Talk_is_answer
  have sc : FnScope ["self", "answer", "wanted"] ["self", "answer"] (defScope s_Talk_is_answer) := ⟨rfl, rfl, rfl, by decide +kernel, rfl, by decide +kernel, by decide +kernel⟩
  refine ⟨⟨fd, F.ok sc (fun vs H Q E h => ?_) (fun cdv A outer s H vs Q E hr h => ⟨_, PSs.nox (pss_cons (ps_set (i := 2) sc.nd rfl (Or.inl rfl) (pe_fn F_moved (hr.mono (by decide)) (pa_cons (pe_fld (pv 0) rfl) (pa_cons (pe_mt0 (pe_fld (pv 0) rfl) F_Giver_answered (hr.mono (by decide))) (pa_cons (pe_gi S.i_SIZE_talks) pa_nil)))))
      (pss_cons (ps_if (pt_cmpR op_gt (pe_fn F_far (hr.mono (by decide)) (pa_cons (pv 2) (pa_cons (pv 1) (pa_cons (pe_gi S.i_SIZE_talks) pa_nil)))) (pe_fn F_far (hr.mono (by decide)) (pa_cons (pv 2) (pa_cons (pe_mt0 (pe_fld (pv 0) rfl) F_Giver_next_number (hr.mono (by decide))) (pa_cons (pe_gi S.i_SIZE_talks) pa_nil)))) (nomark _)) (pss_one (ps_ret pe_bl)) pss_nil)
      (pss_one (ps_ret (pe_or (pe_mt0 (pv 0) F_Talk_is_open (hr.mono (by decide))) (pe_one (pe_cmpR op_eq (pv 1) (pe_fn F_moved (hr.mono (by decide)) (pa_cons (pe_fld (pv 0) rfl) (pa_cons pe_int (pa_cons (pe_gi S.i_SIZE_talks) pa_nil)))) (nomark _)))))))), ?_⟩), F.bindsN (fun _ _ _ _ _ _ us hl => match us, hl with | [_, _], _ => rfl)⟩, S.c_Talk, S.m_Talk_is_answer⟩
  · obtain ⟨_, _, _, _, rfl, _⟩ := h
    rfl
  · obtain ⟨a, n, tl, ans, rfl, KT0, hf, hb, ha, k⟩ := h
    obtain ⟨tv, KT⟩ := id KT0
    refine sq_av (v := .int (moved tl.first tl.g.passed : Nat)) (val_fn (arg_cons (val_obj (val_var rfl) KT.ob S.c_Talk S.n_Talk_begun_with kf_begun_with) (arg_cons (val_mt (val_obj (val_var rfl) KT.ob S.c_Talk S.n_Talk_giver kf_giver) KT.gv.ob (by kernel_rfl) arg_nil fun Q q => ⟨_, _, _, rfl, KT.gv, q⟩) (arg_cons val_c arg_nil))) fun Q q => ⟨tl.first, tl.g.passed, _, rfl, rfl, hf, by rw [moved_int]; exact q⟩) ?_
    have v1 := val_fn (sp := spFar) (v := .int (far (moved tl.first tl.g.passed) ans : Nat)) (σ := (L2.start ["self", "answer", "wanted"] [V.ref a, V.int ans]).set 2 (some (.int (moved tl.first tl.g.passed : Nat)))) (H := H) (arg_cons (val_var (i := 2) rfl) (arg_cons (val_var (i := 1) rfl) (arg_cons (val_c (v := .int 4294967296)) arg_nil))) fun Q q => ⟨_, _, _, rfl, rfl, moved_lt _ _, ha, q⟩
    have v2 := val_fn (sp := spFar) (v := .int (far (moved tl.first tl.g.passed) tl.g.next : Nat)) (σ := (L2.start ["self", "answer", "wanted"] [V.ref a, V.int ans]).set 2 (some (.int (moved tl.first tl.g.passed : Nat)))) (H := H) (arg_cons (val_var (i := 2) rfl) (arg_cons (val_mt (sp := spGNext K) (C := He.ga K "Giver") (m := "next_number") (val_obj (val_var (i := 0) rfl) KT.ob S.c_Talk S.n_Talk_giver kf_giver) KT.gv.ob (by kernel_rfl) arg_nil fun Q q => ⟨_, _, _, rfl, KT.gv, hb, q⟩) (arg_cons (val_c (v := .int 4294967296)) arg_nil))) fun Q q => ⟨_, _, _, rfl, rfl, moved_lt _ _, moved_lt _ _, q⟩
    by_cases c : far (moved tl.first tl.g.passed) tl.g.next < far (moved tl.first tl.g.passed) ans
    · refine sq_yes (ans_rI0 v1 v2 (by exact congrArg V.bl (decide_eq_true (by first | omega | (dsimp only; omega))))) (st_rt (val_c _ ?_))
      have : tl.isAnswer ans = false := by unfold Tl.isAnswer; rw [if_pos c]
      rw [this] at k
      exact k
    · refine sq_no (ans_rI0 v1 v2 (by exact congrArg V.bl (decide_eq_false (by first | omega | (dsimp only; omega))))) ?_
      have : tl.isAnswer ans = (tl.isOpen || decide (ans = moved tl.first 1)) := by unfold Tl.isAnswer; rw [if_neg c]
      rw [this] at k
      refine st_ret (v := .bl (tl.isOpen || decide (ans = moved tl.first 1))) ?_ k
      have vo := val_mt (sp := spKOpen K) (v := .bl tl.isOpen) (m := "is_open") (C := He.ga K "Talk") (σ := (L2.start ["self", "answer", "wanted"] [V.ref a, V.int ans]).set 2 (some (.int (moved tl.first tl.g.passed : Nat)))) (val_var (i := 0) rfl) KT.ob (by kernel_rfl) arg_nil fun Q q => ⟨a, n, tl, rfl, KT0, q⟩
      cases ho : tl.isOpen with
      | true => rw [ho] at vo; exact val_orT vo
      | false =>
        rw [ho] at vo
        refine val_orF vo (val_to (val_op (val_var rfl) (val_fn (v := .int (moved tl.first 1 : Nat)) (arg_cons (val_obj (val_var rfl) KT.ob S.c_Talk S.n_Talk_begun_with kf_begun_with) (arg_cons val_c (arg_cons val_c arg_nil))) fun Q q => ⟨tl.first, 1, _, rfl, rfl, hf, ?_⟩) fun Q q => ⟨rfl, q⟩) ?_)
        · rw [show ((tl.first : Int) + 1) % 4294967296 = (moved tl.first 1 : Nat) from moved_int tl.first 1]; exact q
        · rw [dec_int, Bool.false_or]
          refine congrArg V.bl ?_
          rw [Bool.eq_iff_iff, beq_iff_eq, decide_eq_true_iff]
          omega
theorem ok_Talk_is_cut_by (S : Says K mg) (F_Talk_is_open : Mt P w K mg base 2 "Talk" "is_open" ["self"] (spKOpen K)) (F_Taker_wants : Mt P w K mg base 2 "Taker" "wants" ["self"] (spTWants K)) (F_far : Fn P w K mg base 2 "far" ["one", "other", "size"] spFar) : Mt P w K mg base 3 "Talk" "is_cut_by" ["self", "segment"] (spKCutBy K) := by
  obtain ⟨fd, F⟩ := S.u_Talk_is_cut_by
  have sc : FnScope ["self", "segment", "wanted", "free"] ["self", "segment"] (defScope s_Talk_is_cut_by) := ⟨rfl, rfl, rfl, by decide +kernel, rfl, by decide +kernel, by decide +kernel⟩
  refine ⟨⟨fd, F.ok sc (fun vs H Q E h => ?_) (fun cdv A outer s H vs Q E hr h => ⟨_, PSs.nox (pss_cons (ps_if (PW.pt (pw_and (pt_cmpR op_in_sign pe_str (pe_fld (pv 1) rfl) rfl) (pw_and1 (pt_not (pt_val (pe_mt0 (pv 0) F_Talk_is_open (hr.mono (by decide)))))))) (pss_one (ps_ret pe_bl)) pss_nil)
      (pss_cons (ps_if (pt_cmpR op_isN (pe_fld (pv 0) rfl) pe_non (nomark _)) (pss_one (ps_ret pe_bl)) pss_nil)
      (pss_cons (ps_asg (pe_mt0 (pe_fld (pv 0) rfl) F_Taker_wants (hr.mono (by decide))) (pg_tup rfl (pgs_cons (pg_name (i := 2) sc.nd rfl (Or.inl rfl)) (pgs_cons (pg_name (i := 3) sc.nd rfl (Or.inl rfl)) pgs_nil))))
      (pss_one (ps_ret (pe_cmpR op_le (pe_fn F_far (hr.mono (by decide)) (pa_cons (pv 2) (pa_cons (pe_fld (pv 1) rfl) (pa_cons (pe_gi S.i_SIZE_talks) pa_nil)))) (pv 3) (nomark _))))))), ?_⟩), F.bindsN (fun _ _ _ _ _ _ us hl => match us, hl with | [_, _], _ => rfl)⟩, S.c_Talk, S.m_Talk_is_cut_by⟩
  · obtain ⟨_, _, _, _, _, _, rfl, _⟩ := h
    rfl
  · obtain ⟨a, n, tl, b, u, s, rfl, KT0, U, hn, ht, k⟩ := h
    obtain ⟨tv, KT⟩ := id KT0
    have tk := KT.tk
    have m1 : Ans (tTest (tOp rInSg (tC (.str "a")) (tFld K (tVar 1) "marks"))) (L2.start ["self", "segment", "wanted", "free"] [V.ref a, V.ref b]) H s.a := ans_sg val_c (congrArg V.str s_a) (val_obj (val_var (i := 1) rfl) U.ob S.c_Segment S.n_Segment_marks sf_marks) (mark_a _ _ _ _ _)
    have m2 : Ans (tNot (tB (tMeth (He.ga K "Talk") "is_open" (spKOpen K) [] E0 (tVar 0) tNil))) (L2.start ["self", "segment", "wanted", "free"] [V.ref a, V.ref b]) H (!tl.isOpen) := ans_not (ans_val (val_mt (val_var rfl) KT.ob (by kernel_rfl) arg_nil fun Q q => ⟨a, n, tl, rfl, KT0, q⟩))
    refine sq_if (ans_and2 m1 m2) (fun hb => ?_) (fun hb => ?_)
    · rw [Bool.and_eq_true, Bool.not_eq_true'] at hb
      refine st_rt (val_c _ ?_)
      have : tl.isCutBy s = true := by unfold Tl.isCutBy; rw [if_pos hb]
      rw [this] at k
      exact k H (Same.refl H)
    · have hb : ¬ (s.a = true ∧ tl.isOpen = false) := fun q => absurd hb (by rw [q.1, q.2]; decide)
      have e : tl.isCutBy s = match tl.t with | none => false | some t => decide (far t.wanted s.number ≤ t.free) := by unfold Tl.isCutBy; rw [if_neg hb] <;> (cases tl.t <;> rfl)
      rw [e] at k
      cases et : tl.t with
      | none =>
        rw [et] at k tk
        exact sq_yes (ans_isN' (val_obj (val_var rfl) KT.ob S.c_Talk S.n_Talk_taker kf_taker) (by rw [tk.1]; rfl)) (st_rt (val_c _ (k H (Same.refl H))))
      | some t =>
        rw [et] at k tk
        obtain ⟨rfl, ut, TU⟩ := tk
        obtain ⟨f1, f2⟩ := ht t et
        refine sq_no (ans_isN' (val_obj (val_var rfl) KT.ob S.c_Talk S.n_Talk_taker kf_taker) rfl) (sq_tup (ex_mt (val_obj (val_var rfl) KT.ob S.c_Talk S.n_Talk_taker kf_taker) TU.ob (by kernel_rfl) arg_nil ⟨_, _, ut, t, rfl, TU, f2, fun p H1 hp s1 h1 => g2 h1 ?_⟩))
        refine st_ret (v := .bl (decide (far t.wanted s.number ≤ t.free))) (val_to (val_rI0 (val_fn (v := .int (far t.wanted s.number : Nat)) (arg_cons (val_var rfl) (arg_cons (val_obj (val_var (i := 1) rfl) (U.ob.same s1) S.c_Segment S.n_Segment_number sf_number) (arg_cons val_c arg_nil))) fun Q q => ⟨_, _, _, rfl, rfl, f1, hn, q⟩) (val_var rfl)) ?_) (k H1 s1)
        exact congrArg V.bl (decide_eq_decide.mpr (by omega))
theorem ok_Talk_made (S : Says K mg) (F_Taker_wants : Mt P w K mg base 2 "Taker" "wants" ["self"] (spTWants K)) (F_Segment : Mr P w K mg base 3 "Segment" ["self", "source", "target", "marks", "number", "answer", "room", "data"] [] (spSInit K)) : Mt P w K mg base 5 "Talk" "made" ["self", "marks", "number", "data"] (spKMade K) := by
  obtain ⟨fd, F⟩ := S.u_Talk_made
  have sc : FnScope ["self", "marks", "number", "data", "answer", "room"] ["self", "marks", "number", "data"] (defScope s_Talk_made) := ⟨rfl, rfl, rfl, by decide +kernel, rfl, by decide +kernel, by decide +kernel⟩
  refine ⟨⟨fd, F.ok sc (fun vs H Q E h => ?_) (fun cdv A outer s H vs Q E hr h => ⟨_, PSs.nox (pss_cons (ps_asg (pe_tup (pa_cons pe_int (pa_cons pe_int pa_nil))) (pg_tup rfl (pgs_cons (pg_name (i := 4) sc.nd rfl (Or.inl rfl)) (pgs_cons (pg_name (i := 5) sc.nd rfl (Or.inl rfl)) pgs_nil))))
      (pss_cons (ps_if (pt_cmpR op_in_sign pe_str (pv 1) rfl) (pss_one (ps_asg (pe_mt0 (pe_fld (pv 0) rfl) F_Taker_wants (hr.mono (by decide))) (pg_tup rfl (pgs_cons (pg_name (i := 4) sc.nd rfl (Or.inl rfl)) (pgs_cons (pg_name (i := 5) sc.nd rfl (Or.inl rfl)) pgs_nil))))) pss_nil)
      (pss_one (ps_ret (pe_mr F_Segment (hr.mono (by decide)) (pa_cons (pe_fld (pv 0) rfl) (pa_cons (pe_fld (pv 0) rfl) (pa_cons (pv 1) (pa_cons (pv 2) (pa_cons (pv 4) (pa_cons (pv 5) (pa_cons (pv 3) pa_nil)))))))))))), ?_⟩), F.bindsN (fun _ _ _ _ _ _ us hl => match us, hl with | [_, _, _, _], _ => rfl)⟩, S.c_Talk, S.m_Talk_made⟩
  · obtain ⟨_, _, _, _, _, _, _, _, _, _, _, rfl, _⟩ := h
    rfl
  · obtain ⟨a, n, tl, A, C, E, O, R, num, u, ns, rfl, KT0, ht, hA, hu, hf, k⟩ := h
    obtain ⟨tv, KT⟩ := id KT0
    refine sq_tup (ex_c1 val_c (ex_c1 val_c (ta_nil ⟨by show 2 ≤ sizeLine; decide, fun p0 hp0 => g2 upd_same ?_⟩)))
    have s0 := Same.new (o := .tup [.int 0, .int 0]) hp0
    replace k := fun b H' (s : Same _ H') => k b H' (s0.trans s)
    replace KT := KT.same s0
    replace hu := s0 _ _ hu
    clear KT0
    have tk := KT.tk
    generalize upd H p0 _ = H at *
    cases eA : A with
    | false =>
      subst eA
      refine sq_no (ans_sg val_c (congrArg V.str s_a) (val_var rfl) (mark_a _ _ _ _ _)) ?_
      exact made_end S.c_Talk S.n_Talk_here S.n_Talk_there KT hf hu rfl rfl rfl rfl (an := 0) (rm := 0) rfl rfl rfl rfl k
    | true =>
      subst eA
      refine sq_yes (ans_sg val_c (congrArg V.str s_a) (val_var rfl) (mark_a _ _ _ _ _)) ?_
      cases et : tl.t with
      | none => rw [et] at hA; cases hA rfl
      | some t =>
        rw [et] at tk
        obtain ⟨rfl, ut, TU⟩ := tk
        refine st_tup (ex_mt (val_obj (val_var rfl) KT.ob S.c_Talk S.n_Talk_taker kf_taker) TU.ob (by kernel_rfl) arg_nil ⟨_, _, ut, t, rfl, TU, (ht t et).2, fun p H1 hp s1 h1 => g2 h1 ?_⟩)
        refine made_end S.c_Talk S.n_Talk_here S.n_Talk_there (KT.same s1) hf (s1 _ _ hu) rfl rfl rfl rfl (an := t.wanted) (rm := t.free) rfl rfl ?_ ?_ fun b H' s2 q => k b H' (s1.trans s2) q
        · unfold Tl.made; rw [et]; rfl
        · unfold Tl.made; rw [et]; rfl
end
end SW
end
section
set_option maxRecDepth 100000
set_option maxHeartbeats 4000000
/-! Talk: a segment of items; a taker begun. -/
namespace SW
open PySem PySem.Spec PyProof.Rows L2
def sgn (b : Bool) (m : Str) : Str := if b = true then m else ""
theorem cat_marks : ∀ a e o q, ((sgn a "a" ++ sgn e "e") ++ sgn o "o") ++ sgn q "q" = marks a false e o q := by decide +kernel
theorem len1 : ∀ a e, (sgn a "a").length + (sgn e "e").length ≤ 16777216 := by decide +kernel
theorem len2 : ∀ a e o, (sgn a "a" ++ sgn e "e").length + (sgn o "o").length ≤ 16777216 := by decide +kernel
theorem len3 : ∀ a e o q, ((sgn a "a" ++ sgn e "e") ++ sgn o "o").length + (sgn q "q").length ≤ 16777216 := by decide +kernel
section
variable {K : PySem.W.Frag} {σ : L2.St} {H : Hp} {ta tb te : TE} {c : TT} {b : Bool} {x : V} {a : Addr} {xs : List V} {u : TS} {D : Ends} {Q : VK} {m z : Str} {i : Nat}
theorem ex_ifS (h : AnsS c σ H b) (q : ∀ H', Same H H' → Q (.str (sgn b m)) H') : tIf c (tC (.str m)) (tC (.str "")) σ H Q := h _ fun H' s => by
  have q := q H' s
  cases b with
  | true => exact iteT q
  | false => exact iteF q
theorem sq_augS (hx : σ[i]? = some (some (.str z))) (h : AnsS c σ H b) (hl : z.length + (sgn b m).length ≤ 16777216) (q : ∀ H', Same H H' → u D (σ.set i (some (.str (z ++ sgn b m)))) H') : tSeq (tAug i (tIf c (tC (.str m)) (tC (.str ""))) (fun x y H Q => ∃ i j, x = .str i ∧ y = .str j ∧ i.length + j.length ≤ sizeLine ∧ Q (.str (i ++ j)) H)) u D σ H :=
  ⟨_, hx, ex_ifS h fun H' s => ⟨_, _, rfl, rfl, by rw [sizeLine_eq]; omega, q H' s⟩⟩
theorem ans_inT (ha : Val ta σ H x) (hb : Val tb σ H (.ref a)) (h : H a = some (.tup xs)) (hx : flatV x = true) (hf : xs.all flatV = true) (e : inV x xs = b) : Ans (tTest (tOp (rIn K false) ta tb)) σ H b := fun Q q => ha _ (hb _ ⟨a, xs, rfl, Or.inr (SqT.of h), hx, hf, b, by rw [if_neg (by decide), e], q⟩)
/-- .. == () -/
theorem anss_eq0 (ha : Val ta σ H (.ref a)) (h : H a = some (.tup xs)) (hs : ∀ v ∈ xs, sc v = true) : AnsS (tTest (tOp (rEqD K) ta (tTup tNil))) σ H (decide (xs = [])) := fun Q q => ha _ (ta_nil ⟨by show 0 ≤ sizeLine; decide, fun p hp => eq_tt (upd_at h hp) upd_same hs (fun v hv => absurd hv List.not_mem_nil) ⟨_, rfl, q _ (Same.new hp)⟩⟩)
theorem anss_ne0 (ha : Val ta σ H (.ref a)) (h : H a = some (.tup xs)) (hs : ∀ v ∈ xs, sc v = true) : AnsS (tTest (tOp (rNeD K) ta (tTup tNil))) σ H (!decide (xs = [])) := fun Q q => ha _ (ta_nil ⟨by show 0 ≤ sizeLine; decide, fun p hp => ne_tt (upd_at h hp) upd_same hs (fun v hv => absurd hv List.not_mem_nil) ⟨_, rfl, q _ (Same.new hp)⟩⟩)
/-- .. not in ("o", "e") -/
theorem t_nin {it : It} {Q : Bool → Hp → Prop} (ha : Val ta σ H it.v) (q : ∀ H', Same H H' → Q (decide (it ≠ .o ∧ it ≠ .e)) H') : tTest (tOp (rIn K true) ta (tTup (tCons (tC (.str "o")) (tCons (tC (.str "e")) tNil)))) σ H Q := by
  refine ha _ (ex_c1 val_c (ex_c1 val_c (ta_nil ⟨by show 2 ≤ sizeLine; decide, fun p hp => ?_⟩)))
  have e : (if true = true then !inV it.v [V.str "o", V.str "e"] else inV it.v [V.str "o", V.str "e"]) = decide (it ≠ .o ∧ it ≠ .e) := by
    cases it with
    | o => decide +kernel
    | e => decide +kernel
    | b n => rfl
  exact ⟨p, _, rfl, Or.inr (SqT.of upd_same), by cases it <;> rfl, rfl, _, congrArg V.bl e, q _ (Same.new hp)⟩
end
theorem inV_e (l : List It) : inV (.str "e") (l.map It.v) = decide (It.e ∈ l) := by
  induction l with
  | nil => rfl
  | cons x r ih =>
    show (eqV x.v (.str "e") || inV (.str "e") (r.map It.v)) = _
    have e : eqV x.v (.str "e") = decide (It.e = x) := by
      cases x with
      | o => decide +kernel
      | e => decide +kernel
      | b n => rfl
    rw [ih, e, ← Bool.decide_or]
    exact decide_eq_decide.mpr (by rw [List.mem_cons])
theorem inV_o (l : List It) : inV (.str "o") (l.map It.v) = decide (It.o ∈ l) := by
  induction l with
  | nil => rfl
  | cons x r ih =>
    show (eqV x.v (.str "o") || inV (.str "o") (r.map It.v)) = _
    have e : eqV x.v (.str "o") = decide (It.o = x) := by
      cases x with
      | o => decide +kernel
      | e => decide +kernel
      | b n => rfl
    rw [ih, e, ← Bool.decide_or]
    exact decide_eq_decide.mpr (by rw [List.mem_cons])
theorem flat_items (l : List It) : (l.map It.v).all flatV = true := by
  rw [List.all_eq_true]
  intro v h
  obtain ⟨x, _, rfl⟩ := List.mem_map.mp h
  cases x <;> rfl
theorem bytesOf_take {l : List It} {i : Nat} {it : It} (h : l[i]? = some it) : (bytesOf (l.take (i + 1))).map nV = (bytesOf (l.take i)).map nV ++ (if decide (it ≠ .o ∧ it ≠ .e) = true then [It.v it] else []) := by
  have ap : ∀ l m : List It, bytesOf (l ++ m) = bytesOf l ++ bytesOf m := fun l m => by
    induction l with
    | nil => rfl
    | cons x r ih => cases x <;> simp [bytesOf, ih]
  rw [List.take_add_one, h, ap, List.map_append]
  cases it <;> rfl
def spKSegOf (K : PySem.W.Frag) : Sp := fun vs H Q _ => ∃ (a : Addr) (n : Nm) (tl : Tl) (num r : Nat) (items : List It), vs = [.ref a, .int num, .ref r] ∧ TalkAt K H a n tl ∧ TkFit tl ∧ H r = some (.tup (items.map It.v)) ∧ items.length ≤ 1000 ∧ SegFit (tl.segmentOf num items) ∧
  ∀ b H', Same H H' → SegAt K H' (.ref b) (tl.segmentOf num items) → Q (.ref b) H'
def spKBegin (K : PySem.W.Frag) : Sp := fun vs H Q _ => ∃ (a : Addr) (n : Nm) (tl : Tl) (num : Nat), vs = [.ref a, .int num] ∧ TalkAt K H a n tl ∧ num < 4294967296 ∧ tl.t = none ∧ ∀ n' H', TalkAt K H' a n' (tl.begin num) → Stp H H' a n n' → Q .non H'
section
variable {P : Program} {w : World} {K : PySem.W.Frag} {mg : Str → Option Value} {base : Heap}
theorem ok_Talk_segment_of (S : Says K mg) (F_Talk_made : Mt P w K mg base 5 "Talk" "made" ["self", "marks", "number", "data"] (spKMade K)) : Mt P w K mg base 6 "Talk" "segment_of" ["self", "number", "items"] (spKSegOf K) := by
  obtain ⟨fd, F⟩ := S.u_Talk_segment_of
  have sc : FnScope ["self", "number", "items", "marks", "item"] ["self", "number", "items"] (defScope s_Talk_segment_of) := ⟨rfl, rfl, rfl, by decide +kernel, rfl, by decide +kernel, by decide +kernel⟩
  refine ⟨⟨fd, F.ok sc (fun vs H Q E h => ?_) (fun cdv A outer s H vs Q E hr h => ⟨_, PSs.nox (pss_cons (ps_set (i := 3) sc.nd rfl (Or.inl rfl) (pe_ifExp (pt_cmpR op_notN (pe_fld (pv 0) rfl) pe_non (nomark _)) pe_str pe_str))
      (pss_cons (ps_aug (i := 3) sc.nd rfl (Or.inl rfl) (pe_ifExp (pt_cmpR op_in_seq pe_str (pv 2) rfl) pe_str pe_str) ip_addS)
      (pss_cons (ps_aug (i := 3) sc.nd rfl (Or.inl rfl) (pe_ifExp (pt_cmpR op_in_seq pe_str (pv 2) rfl) pe_str pe_str) ip_addS)
      (pss_cons (ps_aug (i := 3) sc.nd rfl (Or.inl rfl) (pe_ifExp (pt_cmpR (op_eqD hr.units) (pv 2) (pe_tup pa_nil) (nomark _)) pe_str pe_str) ip_addS)
      (pss_one (ps_ret (pe_mt (pv 0) F_Talk_made (hr.mono (by decide)) (pa_cons (pv 3) (pa_cons (pv 1) (pa_cons (pe_callTy call_tuple_of rfl S.f_tuple boot_tuple (pa_cons (pe_lc (own := [("item", 4)]) (g := gName 4) rfl sc.nd (pi_tup (pv 2)) (blkOk_by (own := [("item", 4)]) (N := ["self", "number", "items", "marks", "item"]) (sc := defScope s_Talk_segment_of) (by decide +kernel)) (fun _ _ _ _ _ => pg_name (i := 4) sc.nd rfl (Or.inl rfl)) (fun _ _ _ _ _ => pts_one (pt_cmpR (op_notIn_seqK K) (pv 4) (pe_tup (pa_cons pe_str (pa_cons pe_str pa_nil))) rfl)) (fun _ _ _ _ _ => (pv 4))) pa_nil)) pa_nil)))))))))), ?_⟩), F.bindsN (fun _ _ _ _ _ _ us hl => match us, hl with | [_, _, _], _ => rfl)⟩, S.c_Talk, S.m_Talk_segment_of⟩
  · obtain ⟨_, _, _, _, _, _, rfl, _⟩ := h
    rfl
  · obtain ⟨a, n, tl, num, r, items, rfl, KT0, ht, hr0, hl, hf, k⟩ := h
    obtain ⟨tv, KT⟩ := id KT0
    have ht1 : Ans (tTest (tOp (fun x y H Q => y = .non ∧ Q (.bl (!decide (x = .non))) H) (tFld K (tVar 0) "taker") (tC .non))) (L2.start ["self", "number", "items", "marks", "item"] [V.ref a, V.int num, V.ref r]) H tl.t.isSome := by
      have tk := KT.tk
      cases et : tl.t with
      | none => rw [et] at tk; exact ans_notN' (val_obj (val_var rfl) KT.ob S.c_Talk S.n_Talk_taker kf_taker) (by rw [tk.1]; rfl)
      | some t => rw [et] at tk; exact ans_notN' (val_obj (val_var rfl) KT.ob S.c_Talk S.n_Talk_taker kf_taker) (by rw [tk.1]; rfl)
    refine sq_as (ex_ifS (Ans.mk_s ht1) fun H1 s1 => ?_)
    have hr1 := s1 _ _ hr0
    refine sq_augS rfl (Ans.mk_s (ans_inT val_c (val_var rfl) hr1 rfl (flat_items items) (inV_e items))) (len1 _ _) fun H2 s2 => ?_
    replace s2 := s1.trans s2
    have hr2 := s2 _ _ hr0
    refine sq_augS rfl (Ans.mk_s (ans_inT val_c (val_var rfl) hr2 rfl (flat_items items) (inV_o items))) (len2 _ _ _) fun H3 s3 => ?_
    replace s3 := s2.trans s3
    have hr3 := s3 _ _ hr0
    have e0 : decide (items.map It.v = []) = decide (items = []) := by cases items <;> rfl
    refine sq_augS rfl (anss_eq0 (val_var rfl) hr3 sc_it) (len3 _ _ _ _) fun H4 s4 => ?_
    rw [e0, cat_marks]
    replace s4 := s3.trans s4
    have hr4 := s4 _ _ hr0
    clear s1 s2 s3 hr1 hr2 hr3
    replace KT0 := KT0.same s4
    replace KT := KT.same s4
    refine st_rt (ex_mte (val_var rfl) KT.ob (by kernel_rfl) (ex_c1 (val_var rfl) (ex_c1 (val_var rfl) (ex_ce (ex_cbe (ex_ce ?_))))))
    refine ex_lct (val_var rfl) hr4 (fun D i H' => Same H4 H' ∧ H' D = some (.lst ((bytesOf (items.take i)).map nV))) (fun D hD => ⟨Same.new hD, upd_same⟩) (fun D i H' _ p => p.1 _ _ hr4) ?_ ?_
    · rintro D i x H' hD hx ⟨p1, p2⟩
      obtain ⟨it, hit, rfl⟩ := map_get hx
      have hi : i < items.length := (List.getElem?_eq_some_iff.mp hit).1
      refine ⟨rfl, t_nin (val_var rfl) fun H5 s5 => ?_⟩
      have hl2 := bytesOf_len (items.take i)
      rw [List.length_take] at hl2
      by_cases cc : it ≠ .o ∧ it ≠ .e
      · rw [decide_eq_true cc]
        refine iteT (val_var rfl _ ⟨_, s5 _ _ p2, by rw [List.length_map, sizeLine_eq]; omega, fun b o e => by rw [upd_ne (ne_of_none e hD)]; exact s5 _ _ (p1 b o e), ?_⟩)
        rw [upd_same, bytesOf_take hit, decide_eq_true cc, if_pos rfl]
      · rw [decide_eq_false cc]
        refine iteF ⟨p1.trans s5, ?_⟩
        rw [s5 _ _ p2, bytesOf_take hit, decide_eq_false cc, if_neg (by decide), List.append_nil]
    · rintro D H5 hD ⟨p1, p2⟩
      rw [List.length_map, List.take_of_length_le (Nat.le_refl _)] at p2
      refine ta_nil ⟨D, _, rfl, .inl ⟨SqL.of p2, fun u hu => ta_nil ⟨a, n, tl, tl.t.isSome, false, decide (It.e ∈ items), decide (It.o ∈ items), decide (items = []), num, u, bytesOf items, rfl, (KT0.same p1).same (Same.new hu), ht, id, upd_same, hf, fun b H' s q => k b H' (((s4.trans p1).trans (Same.new hu)).trans s) q⟩⟩⟩
theorem ok_Talk_begin_taker (S : Says K mg) (F_Taker : Mr P w K mg base 2 "Taker" ["self", "first", "room"] [] (spTInit K)) (F_moved : Fn P w K mg base 2 "moved" ["number", "by", "size"] spMoved) : Mt P w K mg base 4 "Talk" "begin_taker" ["self", "number"] (spKBegin K) := by
  obtain ⟨fd, F⟩ := S.u_Talk_begin_taker
  have sc : FnScope ["self", "number"] ["self", "number"] (defScope s_Talk_begin_taker) := ⟨rfl, rfl, rfl, by decide +kernel, rfl, by decide +kernel, by decide +kernel⟩
  refine ⟨⟨fd, F.ok sc (fun vs H Q E h => ?_) (fun cdv A outer s H vs Q E hr h => ⟨_, PSs.nox (pss_cons (ps_fld (pv 0) (pe_mr F_Taker (hr.mono (by decide)) (pa_cons (pe_fn F_moved (hr.mono (by decide)) (pa_cons (pv 1) (pa_cons pe_int (pa_cons (pe_gi S.i_SIZE_talks) pa_nil)))) (pa_cons (pe_gi S.i_ROOM) pa_nil))) rfl)
      (pss_one (ps_fld (pv 0) (pv 1) rfl))), ?_⟩), F.bindsN (fun _ _ _ _ _ _ us hl => match us, hl with | [_, _], _ => rfl)⟩, S.c_Talk, S.m_Talk_begin_taker⟩
  · obtain ⟨_, _, _, _, rfl, _⟩ := h
    rfl
  · obtain ⟨a, n, tl, num, rfl, ⟨tv, KT⟩, hn, ht, k⟩ := h
    refine st_seq (ex_make (arg_cons (val_fn (v := .int (moved num 1 : Nat)) (arg_cons (val_var rfl) (arg_cons val_c (arg_cons val_c arg_nil))) fun Q q => ⟨num, 1, _, rfl, rfl, hn, by rw [show ((num : Int) + 1) % 4294967296 = (moved num 1 : Nat) from moved_int num 1]; exact q⟩) (arg_cons val_c arg_nil)) fun x dx hx hdx hd => ?_)
    have sm := Same.made (C := He.ga K "Taker") hx hdx hd
    refine ⟨x, moved num 1, rfl, moved_lt _ _, ⟨dx, upd_same⟩, fun d u H1 hd1 TU f1 => ⟨rfl, ?_⟩⟩
    have s1 : Same H H1 := fun b o e => f1 b o (sm b o e) (by simp [ne_of_none e hx])
    have hd0 : H d = none := sm.free hd1
    have hxa : x ≠ a := KT.ob.nn hx
    have hda : d ≠ a := KT.ob.nn hd0
    replace KT := KT.same s1
    refine sto_obj (val_var rfl) KT.ob S.c_Talk S.n_Talk_taker kf_few (kp_taker (.ref x)) fun H2 O2 F2 => ?_
    refine st_obj (val_var rfl) (val_var rfl) O2 S.c_Talk S.n_Talk_other_first kf_few (kp_other_first (some num)) fun H3 O3 F3 => ?_
    replace F3 := F2.trans F3
    refine k ⟨n.g, n.lk, x, d⟩ H3 ⟨.ref x, ⟨O3, KT.gv.fr F3 (by simp [KT.ag.symm]) (by simp [KT.al.symm]), ⟨rfl, u, TU.fr F3 (by simp [hxa]) (by simp [hda]) (by simp only [List.mem_singleton, forall_eq]; exact KT.ob.nt)⟩⟩⟩ ⟨fun b hb => ?_, (Fr.same s1).trans (F3.mono (by simp [Nm.all]))⟩
    simp only [Nm.all, List.mem_cons, List.not_mem_nil, or_false] at hb ⊢
    rcases hb with h | h | h | h | h
    · exact .inl (.inl h)
    · exact .inl (.inr (.inl h))
    · exact .inl (.inr (.inr (.inl h)))
    · rw [h]; exact .inr hx
    · rw [h]; exact .inr hd0
end
end SW
end
section
set_option maxRecDepth 100000
set_option maxHeartbeats 4000000
/-! Talk: items taken, segments counted. -/
namespace SW
open PySem PySem.Spec PyProof.Rows L2
theorem TalkV.nsg {K : PySem.W.Frag} {H : Hp} {a : Addr} {n : Nm} {tl : Tl} {tv : V} (h : TalkV K H a n tl tv) : ∀ b ∈ n.all a, ∀ s u, ¬ ObjAt (He.ga K "Segment") H b (sf s u) := by
  have h1 := fun s u => h.ob.nseg (K := K) (by show (10 : Nat) ≠ 7; decide) s u
  have h2 := fun s u => h.gv.ob.nseg (K := K) (by show (13 : Nat) ≠ 7; decide) s u
  have h3 : ∀ s u, ¬ ObjAt (He.ga K "Segment") H n.lk (sf s u) := fun s u q => q.lst h.gv.kp rfl
  have tk := h.tk
  unfold Nm.all
  simp only [List.mem_cons, List.not_mem_nil, or_false, forall_eq_or_imp, forall_eq]
  cases e : tl.t with
  | none =>
    rw [e] at tk
    rw [tk.2.1, tk.2.2]
    exact ⟨h1, h2, h3, h1, h1⟩
  | some t =>
    rw [e] at tk
    obtain ⟨_, u, T⟩ := tk
    exact ⟨h1, h2, h3, fun s u => T.ob.nseg (K := K) (by show (5 : Nat) ≠ 7; decide) s u, fun s u q => q.dK T.ah rfl⟩
theorem SegU.stp {K : PySem.W.Frag} {H H' : Hp} {a b u : Addr} {n : Nm} {tl : Tl} {tv : V} {s : Sg} (h : SegU K H b u s) (T : TalkV K H a n tl tv) (f : Fr (n.all a) H H') : SegU K H' b u s := h.fr f (fun q => T.nsg _ q _ _ h.ob) (fun q => T.nt _ q _ h.da)
theorem SegAt.stp {K : PySem.W.Frag} {H H' : Hp} {a : Addr} {x : V} {n : Nm} {tl : Tl} {tv : V} {s : Sg} (h : SegAt K H x s) (T : TalkV K H a n tl tv) (f : Fr (n.all a) H H') : SegAt K H' x s := h.fr f T.nt T.nsg
def OutAt (K : PySem.W.Frag) (H : Hp) (r : Addr) (l : List Sg) : Prop := ∃ xs, H r = some (.lst xs) ∧ All2 (SegAt K H) xs l
def TkFew (tl : Tl) : Prop := ∀ t, tl.t = some t → t.ahead.length ≤ 200
def spKTake (K : PySem.W.Frag) : Sp := fun vs H Q _ => ∃ (a : Addr) (n : Nm) (tl : Tl) (num r : Nat) (items : List It), vs = [.ref a, .int num, .ref r] ∧ TalkAt K H a n tl ∧ tl.t.isSome = true ∧ TkFit tl ∧ TkFew tl ∧ H r = some (.tup (items.map It.v)) ∧ items.length ≤ 300 ∧ num < 4294967296 ∧
  ∀ n' H', TalkAt K H' a n' (tl.takes num items) → Stp H H' a n n' → Q .non H'
/-- the taker's change is the talk's -/
theorem TalkV.taken {K : PySem.W.Frag} {H H' : Hp} {a d' u' : Addr} {n : Nm} {tl : Tl} {t t' : Tk} (T : TalkV K H a n tl (.ref n.ta)) (e : tl.t = some t) (hd : d' = n.d ∨ H d' = none) (U : TakerU K H' n.ta d' u' t') (f : Fr [n.ta, n.d] H H') : TalkAt K H' a ⟨n.g, n.lk, n.ta, d'⟩ { tl with t := some t' } ∧ Stp H H' a n ⟨n.g, n.lk, n.ta, d'⟩ := by
  have hs := T.tn (by rw [e]; rfl)
  refine ⟨⟨.ref n.ta, T.ob.fr f (by simp [hs.1.symm, hs.2.2.2.1.symm]), T.gv.fr f (by simp [hs.2.1.symm, hs.2.2.2.2.1.symm]) (by simp [hs.2.2.1.symm, hs.2.2.2.2.2.symm]), rfl, u', U⟩, fun b hb => ?_, f.mono (by simp [Nm.all])⟩
  simp only [Nm.all, List.mem_cons, List.not_mem_nil, or_false] at hb ⊢
  rcases hb with h | h | h | h | h
  · exact .inl (.inl h)
  · exact .inl (.inr (.inl h))
  · exact .inl (.inr (.inr (.inl h)))
  · exact .inl (.inr (.inr (.inr (.inl h))))
  · rw [h]
    rcases hd with e | e
    · exact .inl (.inr (.inr (.inr (.inr e))))
    · exact .inr e
section
variable {P : Program} {w : World} {K : PySem.W.Frag} {mg : Str → Option Value} {base : Heap}
theorem ok_Talk_take (S : Says K mg) (F_Taker_take : Mt P w K mg base 4 "Taker" "take" ["self", "number", "items"] (spTTake K)) (F_moved : Fn P w K mg base 2 "moved" ["number", "by", "size"] spMoved) : Mt P w K mg base 5 "Talk" "take" ["self", "number", "items"] (spKTake K) := by
  obtain ⟨fd, F⟩ := S.u_Talk_take
  have sc : FnScope ["self", "number", "items"] ["self", "number", "items"] (defScope s_Talk_take) := ⟨rfl, rfl, rfl, by decide +kernel, rfl, by decide +kernel, by decide +kernel⟩
  refine ⟨⟨fd, F.ok sc (fun vs H Q E h => ?_) (fun cdv A outer s H vs Q E hr h => ⟨_, PSs.nox (pss_one (ps_if (pt_cmpR (op_eqD hr.units) (pe_slice sl_tupA (pv 2) po_none (po_some pe_int)) (pe_tup (pa_cons pe_str pa_nil)) (nomark _)) (pss_one (ps_expr (pe_mt (pe_fld (pv 0) rfl) F_Taker_take (hr.mono (by decide)) (pa_cons (pe_fn F_moved (hr.mono (by decide)) (pa_cons (pv 1) (pa_cons pe_int (pa_cons (pe_gi S.i_SIZE_talks) pa_nil)))) (pa_cons (pe_slice sl_tupA (pv 2) (po_some pe_int) po_none) pa_nil))))) (pss_one (ps_expr (pe_mt (pe_fld (pv 0) rfl) F_Taker_take (hr.mono (by decide)) (pa_cons (pv 1) (pa_cons (pv 2) pa_nil))))))), ?_⟩), F.bindsN (fun _ _ _ _ _ _ us hl => match us, hl with | [_, _, _], _ => rfl)⟩, S.c_Talk, S.m_Talk_take⟩
  · obtain ⟨_, _, _, _, _, _, rfl, _⟩ := h
    rfl
  · obtain ⟨a, n, tl, num, r, items, rfl, ⟨tv, KT⟩, hso, ht, hf, hr0, hl, hn, k⟩ := h
    have tk := KT.tk
    cases et : tl.t with
    | none => rw [et] at hso; cases hso
    | some t =>
      rw [et] at tk
      obtain ⟨rfl, ut, TU⟩ := tk
      have e1 : (items.map It.v).take 1 = (items.take 1).map It.v := List.map_take.symm
      have hc : AnsS (tTest (tOp (rEqD K) (tSl (rSlA K) (tVar 2) tNoPart (tPart (tC (.int 1)))) (tTup (tCons (tC (.str "o")) tNil)))) (L2.start ["self", "number", "items"] [V.ref a, V.int num, V.ref r]) H (decide ((items.take 1).map It.v = [V.str "o"])) := fun Q q =>
        slt_e (val_var rfl) (po_n (po_v (n := ((1 : Nat) : Int)) val_c (sl_take hr0 fun p H1 s1 h1 => ex_c1 val_c (ta_nil ⟨by show 1 ≤ sizeLine; decide, fun p2 hp2 => eq_tt (upd_at h1 hp2) upd_same (by rw [e1]; exact sc_it) (by simp only [List.mem_singleton, forall_eq]; decide +kernel) ⟨_, rfl, by rw [e1]; exact q _ (s1.trans (Same.new hp2))⟩⟩))))
      refine hc _ fun H1 s1 => ?_
      replace KT := KT.same s1
      replace TU := TU.same s1
      replace hr0 := s1 _ _ hr0
      have hla := lay_len t.wanted t.free
      have hfw := hf t et
      obtain ⟨ht1, ht2⟩ := ht t et
      by_cases c : (items.take 1).map It.v = [V.str "o"]
      · rw [decide_eq_true c]
        obtain ⟨rr, rfl⟩ : ∃ rr, items = .o :: rr := by
          cases items with
          | nil => cases c
          | cons x rr => cases x with
            | o => exact ⟨rr, rfl⟩
            | e => exact absurd c (by show ¬ [V.str "e"] = [V.str "o"]; decide +kernel)
            | b z => cases c
        refine iteT (st_dr (ex_mte (val_obj (val_var rfl) KT.ob S.c_Talk S.n_Talk_taker kf_taker) TU.ob (by kernel_rfl) (ex_c1 (val_fn (v := .int (moved num 1 : Nat)) (arg_cons (val_var rfl) (arg_cons val_c (arg_cons val_c arg_nil))) fun Q q => ⟨num, 1, _, rfl, rfl, hn, by rw [show ((num : Int) + 1) % 4294967296 = (moved num 1 : Nat) from moved_int num 1]; exact q⟩) (ex_ce (slt_e (val_var rfl) (po_v (n := ((1 : Nat) : Int)) val_c (po_n (sl_drop hr0 fun p H2 s2 h2 => ta_nil ?_))))))))
        have h2 : H2 p = some (.tup (rr.map It.v)) := h2
        refine ⟨n.ta, n.d, ut, moved num 1, p, t, rr, rfl, TU.same s2, h2, moved_lt _ _, ht1, ht2, by omega, by rw [List.length_cons] at hl; omega, ?_, fun d' u' H3 hd U F => ?_⟩
        · have := hla (moved num 1) rr 0 t.ahead
          rw [List.length_cons] at hl
          show (lay t.wanted t.free (moved num 1) 0 rr t.ahead).length ≤ 600
          omega
        have q := (KT.same s2).taken et hd U F
        refine k _ H3 ?_ (((Stp.same s1).trans (Stp.same s2)).trans q.2)
        have : tl.takes num (.o :: rr) = { tl with t := some (t.take (moved num 1) rr) } := by unfold Tl.takes; rw [et]; rfl
        rw [this]
        exact q.1
      · rw [decide_eq_false c]
        refine iteF (st_dr (ex_mt (val_obj (val_var rfl) KT.ob S.c_Talk S.n_Talk_taker kf_taker) TU.ob (by kernel_rfl) (arg_cons (val_var rfl) (arg_cons (val_var rfl) arg_nil)) ⟨n.ta, n.d, ut, num, r, t, items, rfl, TU, hr0, hn, ht1, ht2, by omega, by omega, ?_, fun d' u' H3 hd U F => ?_⟩))
        · have := hla num items 0 t.ahead
          show (lay t.wanted t.free num 0 items t.ahead).length ≤ 600
          omega
        have q := KT.taken et hd U F
        refine k _ H3 ?_ ((Stp.same s1).trans q.2)
        have : tl.takes num items = { tl with t := some (t.take num items) } := by
          unfold Tl.takes Tk.takes
          rw [et]
          cases items with
          | nil => rfl
          | cons x rr => cases x with
            | o => exact absurd rfl c
            | e => rfl
            | b z => rfl
        rw [this]
        exact q.1
end
end SW
end
section
set_option maxRecDepth 100000
set_option maxHeartbeats 4000000
/-! Talk: segments counted. -/
namespace SW
open PySem PySem.Spec PyProof.Rows L2
theorem anss_or2 {σ : L2.St} {H : Hp} {t u : TT} {b1 b2 : Bool} (h1 : AnsS t σ H b1) (h2 : ∀ H', Same H H' → AnsS u σ H' b2) : AnsS (tOr t u) σ H (b1 || b2) := fun Q q => h1 _ fun H' s => by
  cases b1 with
  | true => exact iteT (q H' s)
  | false => exact iteF (h2 H' s _ fun H2 s2 => q H2 (s.trans s2))
theorem TalkV.nfree {K : PySem.W.Frag} {H : Hp} {a r : Addr} {n : Nm} {tl : Tl} {tv : V} (h : TalkV K H a n tl tv) (hr : H r = none) : r ∉ n.all a := by
  have h1 := h.ob.nn hr
  have h2 := h.gv.ob.nn hr
  have h3 : r ≠ n.lk := (ne_of_none h.gv.kp hr).symm
  have tk := h.tk
  unfold Nm.all
  simp only [List.mem_cons, List.not_mem_nil, or_false, not_or]
  cases e : tl.t with
  | none =>
    rw [e] at tk
    rw [tk.2.1, tk.2.2]
    exact ⟨h1, h2, h3, h1, h1⟩
  | some t =>
    rw [e] at tk
    obtain ⟨_, u, T⟩ := tk
    exact ⟨h1, h2, h3, T.ob.nn hr, (ne_of_none T.ah hr).symm⟩
/-- the giver's change is the talk's -/
theorem TalkV.given {K : PySem.W.Frag} {H H' : Hp} {a lk' : Addr} {n : Nm} {tl : Tl} {tv : V} {g' : Gv} (T : TalkV K H a n tl tv) (hd : lk' = n.lk ∨ H lk' = none) (G : GiverAt K H' n.g lk' g') (f : Fr [n.g, n.lk] H H') : TalkV K H' a ⟨n.g, lk', n.ta, n.d⟩ { tl with g := g' } tv ∧ Stp H H' a n ⟨n.g, lk', n.ta, n.d⟩ := by
  refine ⟨⟨T.ob.fr f (by simp [T.ag, T.al]), G, ?_⟩, fun b hb => ?_, f.mono (by simp [Nm.all])⟩
  · refine (show TkV K H a ⟨n.g, lk', n.ta, n.d⟩ tv tl.t from T.tk).fr f (fun s => ?_) (fun b hb => T.nt b (by simp only [List.mem_cons, List.not_mem_nil, or_false] at hb; rcases hb with h | h <;> simp [Nm.all, h]))
    have hs := T.tn s
    exact ⟨by simp [hs.2.1, hs.2.2.1], by simp [hs.2.2.2.2.1, hs.2.2.2.2.2]⟩
  · simp only [Nm.all, List.mem_cons, List.not_mem_nil, or_false] at hb ⊢
    rcases hb with h | h | h | h | h
    · exact .inl (.inl h)
    · exact .inl (.inr (.inl h))
    · rw [h]
      rcases hd with e | e
      · exact .inl (.inr (.inr (.inl e)))
      · exact .inr e
    · exact .inl (.inr (.inr (.inr (.inl h))))
    · exact .inl (.inr (.inr (.inr (.inr h))))
def spKCounted (K : PySem.W.Frag) : Sp := fun vs H Q _ => ∃ (a : Addr) (n : Nm) (tl : Tl) (b u : Addr) (s : Sg) (t : Nat), vs = [.ref a, .ref b, .int t] ∧ TalkAt K H a n tl ∧ SegU K H b u s ∧ SegFit s ∧ tl.t.isSome = true ∧ TkFit tl ∧ TkFew tl ∧ tl.g.now ≤ t ∧ tl.g.base < 4294967296 ∧
  TkFit (tl.counted s t) ∧ (tl.counted s t).g.base < 4294967296 ∧ (∀ x ∈ (tl.counted s t).reply s, SegFit x) ∧
  ∀ n' r H', (H r = none ∨ r ∈ n.all a) → r ∉ n'.all a → TalkAt K H' a n' (tl.counted s t) → OutAt K H' r ((tl.counted s t).reply s) → Stp H H' a n n' → Q (.ref r) H'
theorem items_len (s : Sg) : s.items.length ≤ s.data.length + 2 := by
  unfold Sg.items
  rw [List.length_append, List.length_append, List.length_map]
  split <;> split <;> simp <;> omega
theorem rest_t (tl : Tl) (t : Nat) : (tl.rest t).t = tl.t ∧ (tl.rest t).g = tl.g := ⟨rfl, rfl⟩
theorem hearA_t (tl : Tl) (s : Sg) (t : Nat) : (tl.hearA s t).t.isSome = tl.t.isSome := by
  unfold Tl.hearA
  split
  · unfold Tl.takes; dsimp only; cases tl.t <;> rfl
  · rfl
section
variable {P : Program} {w : World} {K : PySem.W.Frag} {mg : Str → Option Value} {base : Heap}
theorem ok_Talk_counted (S : Says K mg) (F_Segment_numbered : Mt P w K mg base 1 "Segment" "numbered" ["self"] (spSNumbered K)) (F_Giver_heard : Mt P w K mg base 3 "Giver" "heard" ["self", "answer", "room", "tick"] (spGHeard K)) (F_Talk_take : Mt P w K mg base 5 "Talk" "take" ["self", "number", "items"] (spKTake K)) (F_Taker_ended : Mt P w K mg base 1 "Taker" "ended" ["self"] (spTEnded K)) (F_Giver_left : Mt P w K mg base 1 "Giver" "left" ["self"] (spGLeft K)) (F_Talk_made : Mt P w K mg base 5 "Talk" "made" ["self", "marks", "number", "data"] (spKMade K)) (F_Giver_next_number : Mt P w K mg base 3 "Giver" "next_number" ["self"] (spGNext K)) : Mt P w K mg base 6 "Talk" "counted" ["self", "segment", "tick"] (spKCounted K) := by
  obtain ⟨fd, F⟩ := S.u_Talk_counted
  have sc : FnScope ["self", "segment", "tick", "items"] ["self", "segment", "tick"] (defScope s_Talk_counted) := ⟨rfl, rfl, rfl, by decide +kernel, rfl, by decide +kernel, by decide +kernel⟩
  refine ⟨⟨fd, F.ok sc (fun vs H Q E h => ?_) (fun cdv A outer s H vs Q E hr h => ⟨_, PSs.nox (pss_cons (ps_set (i := 3) sc.nd rfl (Or.inl rfl) (pe_mt0 (pv 1) F_Segment_numbered (hr.mono (by decide))))
      (pss_cons (ps_if (pt_cmpR op_in_sign pe_str (pe_fld (pv 1) rfl) rfl) (pss_cons (ps_expr (pe_mt (pe_fld (pv 0) rfl) F_Giver_heard (hr.mono (by decide)) (pa_cons (pe_fld (pv 1) rfl) (pa_cons (pe_fld (pv 1) rfl) (pa_cons (pv 2) pa_nil)))))
      (pss_one (ps_expr (pe_mt (pv 0) F_Talk_take (hr.mono (by decide)) (pa_cons (pe_fld (pv 1) rfl) (pa_cons (pv 3) pa_nil)))))) pss_nil)
      (pss_cons (ps_if (PW.pt (pw_and (pt_cmpR op_isN (pe_fld (pv 0) rfl) pe_non (nomark _)) (pw_and (pt_val (pe_fld (pv 0) rfl)) (pw_and (pt_val (pe_mt0 (pe_fld (pv 0) rfl) F_Taker_ended (hr.mono (by decide)))) (pw_and1 (pt_cmpR op_eq (pe_mt0 (pe_fld (pv 0) rfl) F_Giver_left (hr.mono (by decide))) pe_int (nomark _))))))) (pss_one (ps_fld (pv 0) (pv 2) rfl)) pss_nil)
      (pss_cons (ps_if (PW.pt (pw_or (pt_cmpR (op_neD hr.units) (pv 3) (pe_tup pa_nil) (nomark _)) (pw_or1 (pt_cmpR op_in_sign pe_str (pe_fld (pv 1) rfl) rfl)))) (pss_one (ps_ret (pe_lst (pa_cons (pe_mt (pv 0) F_Talk_made (hr.mono (by decide)) (pa_cons pe_str (pa_cons (pe_mt0 (pe_fld (pv 0) rfl) F_Giver_next_number (hr.mono (by decide))) (pa_cons (pe_tup pa_nil) pa_nil)))) pa_nil)))) pss_nil)
      (pss_one (ps_ret (pe_lst pa_nil))))))), ?_⟩), F.bindsN (fun _ _ _ _ _ _ us hl => match us, hl with | [_, _, _], _ => rfl)⟩, S.c_Talk, S.m_Talk_counted⟩
  · obtain ⟨_, _, _, _, _, _, _, rfl, _⟩ := h
    rfl
  · obtain ⟨a, n, tl, b, u, s, t, rfl, ⟨tv, KT⟩, U, sf1, hso, ht, hfw, hnow, hb, ht', hb', hfit, k⟩ := h
    refine sq_as (ex_mt (val_var rfl) U.ob (by kernel_rfl) arg_nil ⟨b, u, s, rfl, U, sf1.len, fun p H1 s1 hp => ?_⟩)
    have KT1 := KT.same s1
    have U1 := U.same s1
    have hil := items_len s
    have hdl := sf1.len
    refine sq_ifJ (ans_sg val_c (congrArg V.str s_a) (val_obj (val_var (i := 1) rfl) U1.ob S.c_Segment S.n_Segment_marks sf_marks) (mark_a _ _ _ _ _)) (fun H' => ∃ n', TalkAt K H' a n' (tl.hearA s t) ∧ Stp H1 H' a n n') (fun ea N q => ?_) (fun ea N q => ?_) ?_
    · refine sq_dr (ex_mt (val_obj (val_var rfl) KT1.ob S.c_Talk S.n_Talk_giver kf_giver) KT1.gv.ob (by kernel_rfl) (arg_cons (val_obj (val_var (i := 1) rfl) U1.ob S.c_Segment S.n_Segment_answer sf_answer) (arg_cons (val_obj (val_var (i := 1) rfl) U1.ob S.c_Segment S.n_Segment_room sf_room) (arg_cons (val_var rfl) arg_nil))) ⟨_, _, _, s.answer, s.room, t, rfl, KT1.gv, hnow, hb, sf1.answer, fun lk' H2 hlk G2 F2 => ?_⟩)
      obtain ⟨KT2, st2⟩ := KT1.given hlk G2 F2
      have U2 := U1.stp KT1 st2.fr
      have hp2 : H2 p = some (.tup (s.items.map It.v)) := st2.fr _ _ hp fun q => KT1.nt _ q _ hp
      refine st_dr (ex_mt (val_var rfl) KT2.ob (by kernel_rfl) (arg_cons (val_obj (val_var (i := 1) rfl) U2.ob S.c_Segment S.n_Segment_number sf_number) (arg_cons (val_var rfl) arg_nil)) ⟨a, _, _, s.number, p, s.items, rfl, ⟨tv, KT2⟩, hso, ht, hfw, hp2, by omega, sf1.number, fun n' H3 KT3 st3 => q H3 ⟨n', ?_, st2.trans st3⟩⟩)
      have : tl.hearA s t = ({ tl with g := tl.g.heard s.answer s.room t } : Tl).takes s.number s.items := by unfold Tl.hearA; rw [if_pos ea]
      rw [this]
      exact KT3
    · refine st_next (q H1 ⟨n, ?_, Stp.refl _ _ _⟩)
      have : tl.hearA s t = tl := by unfold Tl.hearA; rw [if_neg (by rw [ea]; decide)]
      rw [this]
      exact ⟨tv, KT1⟩
    · rintro H4 ⟨n4, ⟨tv4, KT4⟩, st4⟩
      have hso4 : (tl.hearA s t).t.isSome = true := by rw [hearA_t]; exact hso
      have U4 := U1.stp KT1 st4.fr
      have hp4 : H4 p = some (.tup (s.items.map It.v)) := st4.fr _ _ hp fun q => KT1.nt _ q _ hp
      have tk4 := KT4.tk
      have ec : tl.counted s t = (tl.hearA s t).rest t := rfl
      generalize tl.hearA s t = tA at *
      rw [ec] at ht' hb' hfit k
      cases et : tA.t with
      | none => rw [et] at hso4; cases hso4
      | some tt =>
      rw [et] at tk4
      obtain ⟨rfl, ut, TU⟩ := tk4
      have hrest : Ans (tAnd (tTest (tOp (fun x y H Q => y = .non ∧ Q (.bl (decide (x = .non))) H) (tFld K (tVar 0) "rested") (tC .non))) (tAnd (tB (tFld K (tVar 0) "finished")) (tAnd (tB (tMeth (He.ga K "Taker") "ended" (spTEnded K) [] E0 (tFld K (tVar 0) "taker") tNil)) (tTest (tOp rEq (tMeth (He.ga K "Giver") "left" (spGLeft K) [] E0 (tFld K (tVar 0) "giver") tNil) (tC (.int 0)))))))
          ((L2.start ["self", "segment", "tick", "items"] [V.ref a, V.ref b, V.int t]).set 3 (some (.ref p))) H4 (decide (tA.rested = none) && (tA.fin && (tA.tover && decide (tA.g.kept.length = 0)))) := by
        refine ans_and2 (ans_isN' (val_obj (val_var rfl) KT4.ob S.c_Talk S.n_Talk_rested kf_rested) ?_) (ans_and2 (ans_val (val_obj (val_var rfl) KT4.ob S.c_Talk S.n_Talk_finished kf_finished)) (ans_and2 (ans_val (val_to (y := .bl tA.tover) (val_mt (val_obj (val_var rfl) KT4.ob S.c_Talk S.n_Talk_taker kf_taker) TU.ob (by kernel_rfl) arg_nil fun Q q => ⟨_, _, ut, tt, rfl, TU, q⟩) ?_)) (ans_eqS (val_mt (val_obj (val_var rfl) KT4.ob S.c_Talk S.n_Talk_giver kf_giver) KT4.gv.ob (by kernel_rfl) arg_nil fun Q q => ⟨_, _, _, rfl, KT4.gv, q⟩) val_c rfl ?_)))
        · cases tA.rested with
          | none => rfl
          | some x => rfl
        · unfold Tl.tover; rw [et]
        · rw [dec_int, Bool.eq_iff_iff, beq_iff_eq, decide_eq_true_iff]
          omega
      refine sq_ifJ hrest (fun H' => TalkV K H' a n4 (tA.rest t) (.ref n4.ta) ∧ Stp H4 H' a n4 n4) (fun hc N q => ?_) (fun hc N q => ?_) ?_
      · refine st_obj (val_var rfl) (val_var rfl) KT4.ob S.c_Talk S.n_Talk_rested kf_few (kp_rested (some t)) fun H5 O5 F5 => q H5 ⟨?_, Stp.fr1 F5⟩
        have hc2 : tA.rested = none ∧ tA.fin = true ∧ tA.tover = true ∧ tA.g.kept.length = 0 := by simpa using hc
        have : tA.rest t = { tA with rested := some t } := by unfold Tl.rest; rw [if_pos hc2]
        rw [this]
        exact KT4.own O5 F5
      · refine st_next (q H4 ⟨?_, Stp.refl _ _ _⟩)
        have hc2 : ¬ (tA.rested = none ∧ tA.fin = true ∧ tA.tover = true ∧ tA.g.kept.length = 0) := fun z => absurd hc (by simp [z.1, z.2.1, z.2.2.1, z.2.2.2])
        have : tA.rest t = tA := by unfold Tl.rest; rw [if_neg hc2]
        rw [this]
        exact KT4
      · rintro H5 ⟨KT5, st5⟩
        have U5 := U4.stp KT4 st5.fr
        have hp5 : H5 p = some (.tup (s.items.map It.v)) := st5.fr _ _ hp4 fun q => KT4.nt _ q _ hp4
        have stA : Stp H H5 a n n4 := ((Stp.same s1).trans st4).trans st5
        have e0 : (!decide (s.items.map It.v = [])) = decide (s.items ≠ []) := by cases s.items <;> rfl
        have hor := anss_or2 (anss_ne0 (K := K) (σ := (L2.start ["self", "segment", "tick", "items"] [V.ref a, V.ref b, V.int t]).set 3 (some (.ref p))) (val_var (i := 3) rfl) hp5 sc_it) (fun H' s' => Ans.mk_s (ans_sg (b := s.q) (val_c (v := .str "q")) (congrArg V.str s_q) (val_obj (val_var (i := 1) rfl) (U5.same s').ob S.c_Segment S.n_Segment_marks sf_marks) (mark_q _ _ _ _ _)))
        rw [e0] at hor
        have er : (tA.rest t).reply s = if s.items ≠ [] ∨ s.q = true then [(tA.rest t).made true false false false false (tA.rest t).g.next []] else [] := rfl
        rw [er] at hfit k
        refine hor _ fun H6 s6 => ?_
        have KT6 := KT5.same s6
        by_cases c : s.items ≠ [] ∨ s.q = true
        · rw [if_pos c] at hfit k
          rw [show (decide (s.items ≠ []) || s.q) = true by rw [Bool.or_eq_true, decide_eq_true_iff]; exact c]
          refine iteT (st_rt (ex_ce (ex_mte (val_var rfl) KT6.ob (by kernel_rfl) (ex_c1 val_c (ex_c1 (val_mt (val_obj (val_var rfl) KT6.ob S.c_Talk S.n_Talk_giver kf_giver) KT6.gv.ob (by kernel_rfl) arg_nil fun Q q => ⟨_, _, _, rfl, KT6.gv, hb', q⟩) (ex_ce (ta_nil ⟨by show 0 ≤ sizeLine; decide, fun e he => ta_nil ?_⟩)))))))
          refine ⟨a, n4, tA.rest t, true, false, false, false, false, (tA.rest t).g.next, e, [], ?_, ⟨_, KT6.same (Same.new he)⟩, ht', fun _ => (show tA.t.isSome = true by rw [et]; rfl), upd_same, hfit _ (by simp), fun x H7 s7 sg => ta_nil ⟨by show 1 ≤ sizeLine; decide, fun r hr => ?_⟩⟩
          · rfl
          · obtain ⟨xa, xu, e1, UX⟩ := sg
            have sx := (s6.trans (Same.new he)).trans s7
            have KT7 := (KT6.same (Same.new he)).same s7
            refine k n4 r _ (stA.fr.free (sx.free hr)) (KT7.nfree hr) ⟨_, KT7.same (Same.new hr)⟩ ⟨_, upd_same, All2.nil.snoc ⟨xa, xu, e1, UX.same (Same.new hr)⟩⟩ (stA.trans (Stp.same (sx.trans (Same.new hr))))
        · rw [if_neg c] at hfit k
          rw [show (decide (s.items ≠ []) || s.q) = false by rw [Bool.eq_false_iff]; intro z; rw [Bool.or_eq_true, decide_eq_true_iff] at z; exact c z]
          refine iteF (st_next ?_)
          dsimp only
          refine st_rt (ta_nil ⟨by show 0 ≤ sizeLine; decide, fun r hr => k n4 r _ (stA.fr.free (s6.free hr)) (KT6.nfree hr) ⟨_, KT6.same (Same.new hr)⟩ ⟨[], upd_same, All2.nil⟩ (stA.trans (Stp.same (s6.trans (Same.new hr))))⟩)
end
end SW
end
section
set_option maxRecDepth 100000
set_option maxHeartbeats 4000000
/-! Talk.heard. -/
namespace SW
open PySem PySem.Spec PyProof.Rows L2
/-- what a talk's functions ask of it -/
structure TlFit (tl : Tl) : Prop where
  ok : tl.okS
  tk : TkFit tl
  few : TkFew tl
  first : tl.first < 4294967296
  base : tl.g.base < 4294967296
def spKHeard (K : PySem.W.Frag) : Sp := fun vs H Q _ => ∃ (a : Addr) (n : Nm) (tl : Tl) (b u : Addr) (s : Sg) (t : Nat), vs = [.ref a, .ref b, .int t] ∧ TalkAt K H a n tl ∧ SegU K H b u s ∧ SegFit s ∧ TlFit tl ∧ tl.last ≤ t ∧ tl.g.now ≤ t ∧
  TkFit (tl.heard s t) ∧ (tl.heard s t).g.base < 4294967296 ∧ (∀ x ∈ tl.heardOut s t, SegFit x) ∧
  ∀ n' r H', (H r = none ∨ r ∈ n.all a) → r ∉ n'.all a → TalkAt K H' a n' (tl.heard s t) → OutAt K H' r (tl.heardOut s t) → Stp H H' a n n' → Q (.ref r) H'
section
variable {P : Program} {w : World} {K : PySem.W.Frag} {mg : Str → Option Value} {base : Heap}
theorem ok_Talk_heard (S : Says K mg) (F_Talk_pass_to : Mt P w K mg base 2 "Talk" "pass_to" ["self", "tick"] (spKPass K)) (F_Talk_is_over : Mt P w K mg base 4 "Talk" "is_over" ["self"] (spKOver K)) (F_Talk_is_answer : Mt P w K mg base 4 "Talk" "is_answer" ["self", "answer"] (spKAnswer K)) (F_Talk_is_open : Mt P w K mg base 2 "Talk" "is_open" ["self"] (spKOpen K)) (F_Talk_made : Mt P w K mg base 5 "Talk" "made" ["self", "marks", "number", "data"] (spKMade K)) (F_Talk_is_cut_by : Mt P w K mg base 3 "Talk" "is_cut_by" ["self", "segment"] (spKCutBy K)) (F_Talk_begin_taker : Mt P w K mg base 4 "Talk" "begin_taker" ["self", "number"] (spKBegin K)) (F_Talk_counted : Mt P w K mg base 6 "Talk" "counted" ["self", "segment", "tick"] (spKCounted K)) : Mt P w K mg base 7 "Talk" "heard" ["self", "segment", "tick"] (spKHeard K) := by
  obtain ⟨fd, F⟩ := S.u_Talk_heard
  have sc : FnScope ["self", "segment", "tick"] ["self", "segment", "tick"] (defScope s_Talk_heard) := ⟨rfl, rfl, rfl, by decide +kernel, rfl, by decide +kernel, by decide +kernel⟩
  refine ⟨⟨fd, F.ok sc (fun vs H Q E h => ?_) (fun cdv A outer s H vs Q E hr h => ⟨_, PSs.nox (pss_cons (ps_expr (pe_mt (pv 0) F_Talk_pass_to (hr.mono (by decide)) (pa_cons (pv 2) pa_nil)))
      (pss_cons (ps_if (pt_val (pe_mt0 (pv 0) F_Talk_is_over (hr.mono (by decide)))) (pss_one (ps_ret (pe_lst pa_nil))) pss_nil)
      (pss_cons (ps_if (PW.pt (pw_and (pt_cmpR op_in_sign pe_str (pe_fld (pv 1) rfl) rfl) (pw_and1 (pt_not (pt_val (pe_mt (pv 0) F_Talk_is_answer (hr.mono (by decide)) (pa_cons (pe_fld (pv 1) rfl) pa_nil))))))) (pss_cons (ps_if (PW.pt (pw_or (pt_val (pe_mt0 (pv 0) F_Talk_is_open (hr.mono (by decide)))) (pw_or1 (pt_cmpR op_in_sign pe_str (pe_fld (pv 1) rfl) rfl)))) (pss_one (ps_ret (pe_lst pa_nil))) pss_nil)
      (pss_one (ps_ret (pe_lst (pa_cons (pe_mt (pv 0) F_Talk_made (hr.mono (by decide)) (pa_cons pe_str (pa_cons (pe_fld (pv 1) rfl) (pa_cons (pe_tup pa_nil) pa_nil)))) pa_nil))))) pss_nil)
      (pss_cons (ps_if (pt_cmpR op_in_sign pe_str (pe_fld (pv 1) rfl) rfl) (pss_cons (ps_if (pt_val (pe_mt (pv 0) F_Talk_is_cut_by (hr.mono (by decide)) (pa_cons (pv 1) pa_nil))) (pss_one (ps_fld (pv 0) pe_str rfl)) pss_nil)
      (pss_one (ps_ret (pe_lst pa_nil)))) pss_nil)
      (pss_cons (ps_if (pt_cmpR op_isN (pe_fld (pv 0) rfl) pe_non (nomark _)) (pss_cons (ps_if (PW.pt (pw_or (pt_cmpR op_notIn_sign pe_str (pe_fld (pv 1) rfl) rfl) (pw_or1 (pt_cmpR op_notIn_sign pe_str (pe_fld (pv 1) rfl) rfl)))) (pss_one (ps_ret (pe_lst pa_nil))) pss_nil)
      (pss_one (ps_expr (pe_mt (pv 0) F_Talk_begin_taker (hr.mono (by decide)) (pa_cons (pe_fld (pv 1) rfl) pa_nil))))) pss_nil)
      (pss_one (ps_ret (pe_mt (pv 0) F_Talk_counted (hr.mono (by decide)) (pa_cons (pv 1) (pa_cons (pv 2) pa_nil)))))))))), ?_⟩), F.bindsN (fun _ _ _ _ _ _ us hl => match us, hl with | [_, _, _], _ => rfl)⟩, S.c_Talk, S.m_Talk_heard⟩
  · obtain ⟨_, _, _, _, _, _, _, rfl, _⟩ := h
    rfl
  · obtain ⟨a, n, tl, b, u, s, t, rfl, ⟨tv, KT⟩, U, sf1, fit, hlast, hnow, ht', hb', hfit, k⟩ := h
    refine sq_dr (ex_mt (val_var rfl) KT.ob (by kernel_rfl) (arg_cons (val_var rfl) arg_nil) ⟨a, n, tl, t, tv, rfl, KT, hlast, fun H1 KT1 F1 => ?_⟩)
    have st1 : Stp H H1 a n n := Stp.fr1 F1
    have U1 := U.stp KT st1.fr
    have ok1 : (tl.at_ t).okS := fit.ok
    have eh : tl.heard s t = match (tl.at_ t).way s with | .cuts => if (tl.at_ t).isCutBy s = true then { tl.at_ t with ending := .cut } else tl.at_ t | .counts => ((tl.at_ t).heard1 s).counted s t | _ => tl.at_ t := rfl
    have eo : tl.heardOut s t = match (tl.at_ t).way s with | .bad => [(tl.at_ t).made false true false false false s.answer []] | .counts => (((tl.at_ t).heard1 s).counted s t).reply s | _ => [] := rfl
    have fit1 : TlFit (tl.at_ t) := ⟨fit.ok, fit.tk, fit.few, fit.first, fit.base⟩
    have now1 : (tl.at_ t).g.now ≤ t := hnow
    generalize tl.at_ t = tA at *
    -- an empty list given back
    have ret0 : ∀ (σ : L2.St) (n2 : Nm) (tlx : Tl) (H2 : Hp), tl.heard s t = tlx → tl.heardOut s t = [] → TalkAt K H2 a n2 tlx → Stp H H2 a n n2 → tRet (tLst tNil) { nx := fun _ H' => Q .non H', rt := Q } σ H2 := fun σ n2 tlx H2 e1 e2 ⟨tv2, T2⟩ st2 => by
      rw [e1, e2] at k
      exact st_rt (ta_nil ⟨by show 0 ≤ sizeLine; decide, fun r hr => k n2 r _ (st2.fr.free hr) (T2.nfree hr) ⟨tv2, T2.same (Same.new hr)⟩ ⟨[], upd_same, All2.nil⟩ (st2.trans (Stp.same (Same.new hr)))⟩)
    have hover : AnsS (tB (tMeth (He.ga K "Talk") "is_over" (spKOver K) [] E0 (tVar 0) tNil)) (L2.start ["self", "segment", "tick"] [V.ref a, V.ref b, V.int t]) H1 tA.isOver := fun Q q => ex_mt (val_var rfl) KT1.ob (by kernel_rfl) arg_nil ⟨a, n, tA, rfl, ⟨tv, KT1⟩, ok1, fun H' s' => ⟨_, rfl, q H' s'⟩⟩
    refine hover _ fun H2 s2 => ?_
    have st2 := st1.trans (Stp.same (a := a) (n := n) s2)
    have KT2 := KT1.same s2
    have U2 := U1.same s2
    clear hover KT KT1 U U1 F1 st1
    by_cases c1 : tA.isOver = true
    · rw [c1]
      have ew : tA.way s = .dead := by unfold Tl.way; rw [if_pos c1]
      rw [ew] at eh eo
      exact iteT (ret0 _ n tA H2 eh eo ⟨tv, KT2⟩ st2)
    · rw [Bool.eq_false_iff.mpr c1]
      refine iteF (st_next ?_)
      dsimp only
      have mka : ∀ σ : L2.St, σ[1]? = some (some (.ref b)) → Ans (tTest (tOp rInSg (tC (.str "a")) (tFld K (tVar 1) "marks"))) σ H2 s.a := fun σ h1 => ans_sg val_c (congrArg V.str s_a) (val_obj (val_var h1) U2.ob S.c_Segment S.n_Segment_marks sf_marks) (mark_a _ _ _ _ _)
      have mkc : ∀ σ : L2.St, σ[1]? = some (some (.ref b)) → Ans (tTest (tOp rInSg (tC (.str "c")) (tFld K (tVar 1) "marks"))) σ H2 s.c := fun σ h1 => ans_sg val_c (congrArg V.str s_c) (val_obj (val_var h1) U2.ob S.c_Segment S.n_Segment_marks sf_marks) (mark_c _ _ _ _ _)
      have han : Ans (tNot (tB (tMeth (He.ga K "Talk") "is_answer" (spKAnswer K) [] E0 (tVar 0) (tCons (tFld K (tVar 1) "answer") tNil)))) (L2.start ["self", "segment", "tick"] [V.ref a, V.ref b, V.int t]) H2 (!tA.isAnswer s.answer) := ans_not (ans_val (val_mt (val_var rfl) KT2.ob (by kernel_rfl) (arg_cons (val_obj (val_var (i := 1) rfl) U2.ob S.c_Segment S.n_Segment_answer sf_answer) arg_nil) fun Q q => ⟨a, n, tA, s.answer, rfl, ⟨tv, KT2⟩, fit1.first, fit1.base, sf1.answer, q⟩))
      have hop : Ans (tB (tMeth (He.ga K "Talk") "is_open" (spKOpen K) [] E0 (tVar 0) tNil)) (L2.start ["self", "segment", "tick"] [V.ref a, V.ref b, V.int t]) H2 tA.isOpen := ans_val (val_mt (val_var rfl) KT2.ob (by kernel_rfl) arg_nil fun Q q => ⟨a, n, tA, rfl, ⟨tv, KT2⟩, q⟩)
      by_cases c2 : s.a = true ∧ tA.isAnswer s.answer = false
      · refine sq_yes (by have := ans_and2 (mka _ rfl) han; rw [c2.1, c2.2] at this; exact this) ?_
        by_cases c3 : tA.isOpen = true ∨ s.c = true
        · have ew : tA.way s = .drop := by unfold Tl.way; rw [if_neg c1, if_pos c2, if_pos c3]
          rw [ew] at eh eo
          have hor : AnsS (tOr _ _) _ _ (tA.isOpen || s.c) := anss_or2 (Ans.mk_s hop) (fun H' s' => Ans.mk_s (ans_sg (b := s.c) (val_c (v := .str "c")) (congrArg V.str s_c) (val_obj (val_var (i := 1) rfl) (U2.same s').ob S.c_Segment S.n_Segment_marks sf_marks) (mark_c _ _ _ _ _)))
          refine hor _ fun H3 s3 => ?_
          rw [show (tA.isOpen || s.c) = true by rw [Bool.or_eq_true]; exact c3]
          exact iteT (ret0 _ n tA H3 eh eo ⟨tv, KT2.same s3⟩ (st2.trans (Stp.same s3)))
        · have ew : tA.way s = .bad := by unfold Tl.way; rw [if_neg c1, if_pos c2, if_neg c3]
          rw [ew] at eh eo
          have hor : AnsS (tOr _ _) _ _ (tA.isOpen || s.c) := anss_or2 (Ans.mk_s hop) (fun H' s' => Ans.mk_s (ans_sg (b := s.c) (val_c (v := .str "c")) (congrArg V.str s_c) (val_obj (val_var (i := 1) rfl) (U2.same s').ob S.c_Segment S.n_Segment_marks sf_marks) (mark_c _ _ _ _ _)))
          refine hor _ fun H3 s3 => ?_
          rw [show (tA.isOpen || s.c) = false by rw [Bool.eq_false_iff]; intro z; rw [Bool.or_eq_true] at z; exact c3 z]
          refine iteF (st_next ?_)
          dsimp only
          have KT3 := KT2.same s3
          have eh : tl.heard s t = tA := eh
          have eo : tl.heardOut s t = [tA.made false true false false false s.answer []] := eo
          rw [eh, eo] at k
          rw [eo] at hfit
          refine st_rt (ex_ce (ex_mte (val_var rfl) KT3.ob (by kernel_rfl) (ex_c1 val_c (ex_c1 (val_obj (val_var (i := 1) rfl) (U2.same s3).ob S.c_Segment S.n_Segment_answer sf_answer) (ex_ce (ta_nil ⟨by show 0 ≤ sizeLine; decide, fun e he => ta_nil ?_⟩))))))
          refine ⟨a, n, tA, false, true, false, false, false, s.answer, e, [], rfl, ⟨_, KT3.same (Same.new he)⟩, fit1.tk, fun z => absurd z (by decide), upd_same, hfit _ (by simp), fun x H7 s7 sg => ta_nil ⟨by show 1 ≤ sizeLine; decide, fun r hr => ?_⟩⟩
          obtain ⟨xa, xu, e1, UX⟩ := sg
          have sx := (s3.trans (Same.new he)).trans s7
          have KT7 := KT2.same sx
          exact k n r _ (st2.fr.free (sx.free hr)) (KT7.nfree hr) ⟨_, KT7.same (Same.new hr)⟩ ⟨_, upd_same, All2.nil.snoc ⟨xa, xu, e1, UX.same (Same.new hr)⟩⟩ (st2.trans (Stp.same (sx.trans (Same.new hr))))
      · refine sq_no (by have := ans_and2 (mka _ rfl) han; rw [show (s.a && !tA.isAnswer s.answer) = false by rw [Bool.eq_false_iff]; intro z; rw [Bool.and_eq_true, Bool.not_eq_true'] at z; exact c2 z] at this; exact this) ?_
        by_cases c3 : s.c = true
        · have ew : tA.way s = .cuts := by unfold Tl.way; rw [if_neg c1, if_neg c2, if_pos c3]
          rw [ew] at eh eo
          refine sq_yes (by have := mkc _ (show (L2.start ["self", "segment", "tick"] [V.ref a, V.ref b, V.int t])[1]? = _ from rfl); rw [c3] at this; exact this) ?_
          have hcut : AnsS (tB (tMeth (He.ga K "Talk") "is_cut_by" (spKCutBy K) [] E0 (tVar 0) (tCons (tVar 1) tNil))) (L2.start ["self", "segment", "tick"] [V.ref a, V.ref b, V.int t]) H2 (tA.isCutBy s) := fun Q q => ex_mt (val_var rfl) KT2.ob (by kernel_rfl) (arg_cons (val_var rfl) arg_nil) ⟨a, n, tA, b, u, s, rfl, ⟨tv, KT2⟩, U2, sf1.number, fit1.tk, fun H' s' => ⟨_, rfl, q H' s'⟩⟩
          refine hcut _ fun H3 s3 => ?_
          have KT3 := KT2.same s3
          have eh : tl.heard s t = if tA.isCutBy s = true then { tA with ending := .cut } else tA := eh
          by_cases c4 : tA.isCutBy s = true
          · rw [if_pos c4] at eh
            rw [c4]
            refine iteT (st_obj val_c (val_var rfl) KT3.ob S.c_Talk S.n_Talk_ending kf_few (kp_ending .cut) fun H4 O4 F4 => ?_)
            dsimp only
            exact ret0 _ n _ H4 eh eo ⟨tv, KT3.own O4 F4⟩ ((st2.trans (Stp.same s3)).trans (Stp.fr1 F4))
          · rw [if_neg c4] at eh
            rw [Bool.eq_false_iff.mpr c4]
            refine iteF (st_next ?_)
            dsimp only
            exact ret0 _ n _ H3 eh eo ⟨tv, KT3⟩ (st2.trans (Stp.same s3))
        · refine sq_no (by have := mkc _ (show (L2.start ["self", "segment", "tick"] [V.ref a, V.ref b, V.int t])[1]? = _ from rfl); rw [Bool.eq_false_iff.mpr c3] at this; exact this) ?_
          have cnt : ∀ (n3 : Nm) (H3 : Hp), tl.heard s t = (tA.heard1 s).counted s t → tl.heardOut s t = ((tA.heard1 s).counted s t).reply s → TalkAt K H3 a n3 (tA.heard1 s) → (tA.heard1 s).t.isSome = true → TkFit (tA.heard1 s) → TkFew (tA.heard1 s) → SegU K H3 b u s → Stp H H3 a n n3 →
              tRet (tMeth (He.ga K "Talk") "counted" (spKCounted K) [] E0 (tVar 0) (tCons (tVar 1) (tCons (tVar 2) tNil))) { nx := fun _ H' => Q .non H', rt := Q } (L2.start ["self", "segment", "tick"] [V.ref a, V.ref b, V.int t]) H3 := fun n3 H3 e1 e2 T3 h1 h2 h3 U3 st3 => by
            rw [e1] at k ht' hb'
            rw [e2] at k hfit
            obtain ⟨tv3, KT3⟩ := id T3
            refine st_rt (ex_mt (val_var rfl) KT3.ob (by kernel_rfl) (arg_cons (val_var rfl) (arg_cons (val_var rfl) arg_nil)) ⟨a, n3, tA.heard1 s, b, u, s, t, rfl, T3, U3, sf1, h1, h2, h3, ?_, ?_, ht', hb', hfit, fun n' r H' hr hn' T' O' st' => k n' r H' ?_ hn' T' O' (st3.trans st')⟩)
            · unfold Tl.heard1; split <;> exact now1
            · unfold Tl.heard1; split <;> exact fit1.base
            · rcases hr with hr | hr
              · exact st3.fr.free hr
              · exact (st3.kn r hr).symm
          have tk2 := KT2.tk
          cases et : tA.t with
          | some tt =>
            rw [et] at tk2
            have ew : tA.way s = .counts := by unfold Tl.way; rw [if_neg c1, if_neg c2, if_neg c3, if_neg (by rw [et]; exact fun z => Bool.noConfusion z.1)]
            rw [ew] at eh eo
            have e1 : tA.heard1 s = tA := by unfold Tl.heard1; rw [et]; rfl
            refine sq_no (ans_isN' (val_obj (val_var rfl) KT2.ob S.c_Talk S.n_Talk_taker kf_taker) (by rw [tk2.1]; rfl)) ?_
            exact cnt n H2 eh eo (by rw [e1]; exact ⟨tv, KT2⟩) (by rw [e1, et]; rfl) (by rw [e1]; exact fit1.tk) (by rw [e1]; exact fit1.few) U2 st2
          | none =>
            rw [et] at tk2
            have mko : Ans (tTest (tOp rNiSg (tC (.str "o")) (tFld K (tVar 1) "marks"))) (L2.start ["self", "segment", "tick"] [V.ref a, V.ref b, V.int t]) H2 (!s.o) := ans_nsg val_c (congrArg V.str s_o) (val_obj (val_var (i := 1) rfl) U2.ob S.c_Segment S.n_Segment_marks sf_marks) (by rw [mark_o])
            have mna : Ans (tTest (tOp rNiSg (tC (.str "a")) (tFld K (tVar 1) "marks"))) (L2.start ["self", "segment", "tick"] [V.ref a, V.ref b, V.int t]) H2 (!s.a) := ans_nsg val_c (congrArg V.str s_a) (val_obj (val_var (i := 1) rfl) U2.ob S.c_Segment S.n_Segment_marks sf_marks) (by rw [mark_a])
            refine sq_yes (ans_isN' (val_obj (val_var rfl) KT2.ob S.c_Talk S.n_Talk_taker kf_taker) (by rw [tk2.1]; rfl)) ?_
            by_cases c4 : s.o = false ∨ s.a = false
            · have ew : tA.way s = .early := by unfold Tl.way; rw [if_neg c1, if_neg c2, if_neg c3, if_pos ⟨by rw [et]; rfl, c4⟩]
              rw [ew] at eh eo
              have hor : AnsS (tOr _ _) _ _ (!s.o || !s.a) := anss_or2 (Ans.mk_s mko) (fun H' s' => Ans.mk_s (ans_nsg (b := !s.a) (val_c (v := .str "a")) (congrArg V.str s_a) (val_obj (val_var (i := 1) rfl) (U2.same s').ob S.c_Segment S.n_Segment_marks sf_marks) (by rw [mark_a])))
              refine hor _ fun H3 s3 => ?_
              rw [show (!s.o || !s.a) = true by rw [Bool.or_eq_true, Bool.not_eq_true', Bool.not_eq_true']; exact c4]
              exact iteT (ret0 _ n tA H3 eh eo ⟨tv, KT2.same s3⟩ (st2.trans (Stp.same s3)))
            · have ew : tA.way s = .counts := by unfold Tl.way; rw [if_neg c1, if_neg c2, if_neg c3, if_neg (fun z => c4 z.2)]
              rw [ew] at eh eo
              have e1 : tA.heard1 s = tA.begin s.number := by unfold Tl.heard1; rw [et]; rfl
              have ho : s.o = true := Bool.not_eq_false _ |>.mp fun z => c4 (.inl z)
              have ha : s.a = true := Bool.not_eq_false _ |>.mp fun z => c4 (.inr z)
              rw [ho] at mko
              rw [ha] at mna
              refine sq_no (ans_or mko mna) (st_dr (ex_mt (val_var rfl) KT2.ob (by kernel_rfl) (arg_cons (val_obj (val_var (i := 1) rfl) U2.ob S.c_Segment S.n_Segment_number sf_number) arg_nil) ⟨a, n, tA, s.number, rfl, ⟨tv, KT2⟩, sf1.number, et, fun n3 H3 T3 st3 => ?_⟩))
              dsimp only
              refine cnt n3 H3 eh eo (by rw [e1]; exact T3) (by rw [e1]; rfl) ?_ ?_ (U2.stp KT2 st3.fr) (st2.trans st3)
              · rw [e1]
                intro t2 h2
                cases (show Tk.new (moved s.number 1) = t2 from Option.some.inj h2)
                exact ⟨moved_lt _ _, Nat.zero_le _⟩
              · rw [e1]
                intro t2 h2
                cases (show Tk.new (moved s.number 1) = t2 from Option.some.inj h2)
                exact Nat.zero_le _
end
end SW
end
section
set_option maxRecDepth 100000
set_option maxHeartbeats 4000000
/-! Talk: written, finished, read, cut. -/
namespace SW
open PySem PySem.Spec PyProof.Rows L2
def spKWrite (K : PySem.W.Frag) : Sp := fun vs H Q _ => ∃ (a d : Addr) (n : Nm) (tl : Tl) (ns : List Nat), vs = [.ref a, .ref d] ∧ TalkAt K H a n tl ∧ tl.okS ∧ H d = some (.tup (ns.map nV)) ∧ ns.length ≤ 1000 ∧ (∀ x ∈ ns, x < 256) ∧ (tl.g.fin = false → full tl.g.kept ≤ 512) ∧ tl.g.kept.length ≤ 6000 ∧
  ∀ H', TalkAt K H' a n (tl.write ns) → Stp H H' a n n → Q (.int (tl.many ns)) H'
def spKFinish (K : PySem.W.Frag) : Sp := fun vs H Q _ => ∃ (a : Addr) (n : Nm) (tl : Tl), vs = [.ref a] ∧ TalkAt K H a n tl ∧ tl.okS ∧ tl.g.kept.length ≤ 6000 ∧ ∀ H', TalkAt K H' a n tl.finish → Stp H H' a n n → Q .non H'
def spKRead (K : PySem.W.Frag) : Sp := fun vs H Q _ => ∃ (a m : Nat) (n : Nm) (tl : Tl), vs = [.ref a, .int m] ∧ TalkAt K H a n tl ∧ ∀ b H', TalkAt K H' a n (tl.read m) → Stp H H' a n n → H' b = some (.tup ((tl.readOut m).map nV)) → Q (.ref b) H'
def spKReady (K : PySem.W.Frag) : Sp := fun vs H Q _ => ∃ (a : Addr) (n : Nm) (tl : Tl), vs = [.ref a] ∧ TalkAt K H a n tl ∧ Q (.int tl.ready) H
def spKFirsts (K : PySem.W.Frag) : Sp := fun vs H Q _ => ∃ (a : Addr) (n : Nm) (tl : Tl), vs = [.ref a] ∧ TalkAt K H a n tl ∧ ∀ b H', H b = none → Same H H' → H' b = some (.tup [.int tl.first, optV tl.other]) → Q (.ref b) H'
def spKCut (K : PySem.W.Frag) : Sp := fun vs H Q _ => ∃ (a : Addr) (n : Nm) (tl : Tl), vs = [.ref a] ∧ TalkAt K H a n tl ∧ TlFit tl ∧ (∀ x ∈ tl.cutOut, SegFit x) ∧
  ∀ r H', (H r = none ∨ r ∈ n.all a) → r ∉ n.all a → TalkAt K H' a n tl.cut → OutAt K H' r tl.cutOut → Stp H H' a n n → Q (.ref r) H'
section
variable {P : Program} {w : World} {K : PySem.W.Frag} {mg : Str → Option Value} {base : Heap}
theorem over_s {σ : L2.St} {H : Hp} {a : Addr} {n : Nm} {tl : Tl} (h0 : σ[0]? = some (some (.ref a))) (T : TalkAt K H a n tl) (ok : tl.okS) : AnsS (tB (tMeth (He.ga K "Talk") "is_over" (spKOver K) [] E0 (tVar 0) tNil)) σ H tl.isOver := fun Q q => by
  obtain ⟨tv, KT⟩ := id T
  exact ex_mt (val_var h0) KT.ob (by kernel_rfl) arg_nil ⟨a, n, tl, rfl, T, ok, fun H' s' => ⟨_, rfl, q H' s'⟩⟩
theorem ok_Talk_firsts (S : Says K mg)  : Mt P w K mg base 1 "Talk" "firsts" ["self"] (spKFirsts K) := by
  obtain ⟨fd, F⟩ := S.u_Talk_firsts
  have sc : FnScope ["self"] ["self"] (defScope s_Talk_firsts) := ⟨rfl, rfl, rfl, by decide +kernel, rfl, by decide +kernel, by decide +kernel⟩
  refine ⟨⟨fd, F.ok sc (fun vs H Q E h => ?_) (fun cdv A outer s H vs Q E hr h => ⟨_, PSs.nox (pss_one (ps_ret (pe_tup (pa_cons (pe_fld (pv 0) rfl) (pa_cons (pe_fld (pv 0) rfl) pa_nil))))), ?_⟩), F.bindsN (fun _ _ _ _ _ _ us hl => match us, hl with | [_], _ => rfl)⟩, S.c_Talk, S.m_Talk_firsts⟩
  · obtain ⟨_, _, _, rfl, _⟩ := h
    rfl
  · obtain ⟨a, n, tl, rfl, ⟨tv, KT⟩, k⟩ := h
    exact st_rt (ex_c1 (val_obj (val_var rfl) KT.ob S.c_Talk S.n_Talk_begun_with kf_begun_with) (ex_c1 (val_obj (val_var rfl) KT.ob S.c_Talk S.n_Talk_other_first kf_other_first) (ta_nil ⟨by show 2 ≤ sizeLine; decide, fun b hb => k b _ hb (Same.new hb) upd_same⟩)))
theorem ok_Talk_ready (S : Says K mg) (F_Taker_ready : Mt P w K mg base 1 "Taker" "ready" ["self"] (spTReady K)) : Mt P w K mg base 2 "Talk" "ready" ["self"] (spKReady K) := by
  obtain ⟨fd, F⟩ := S.u_Talk_ready
  have sc : FnScope ["self"] ["self"] (defScope s_Talk_ready) := ⟨rfl, rfl, rfl, by decide +kernel, rfl, by decide +kernel, by decide +kernel⟩
  refine ⟨⟨fd, F.ok sc (fun vs H Q E h => ?_) (fun cdv A outer s H vs Q E hr h => ⟨_, PSs.nox (pss_one (ps_ret (pe_ifExp (pt_cmpR op_isN (pe_fld (pv 0) rfl) pe_non (nomark _)) pe_int (pe_mt0 (pe_fld (pv 0) rfl) F_Taker_ready (hr.mono (by decide)))))), ?_⟩), F.bindsN (fun _ _ _ _ _ _ us hl => match us, hl with | [_], _ => rfl)⟩, S.c_Talk, S.m_Talk_ready⟩
  · obtain ⟨_, _, _, rfl, _⟩ := h
    rfl
  · obtain ⟨a, n, tl, rfl, ⟨tv, KT⟩, k⟩ := h
    have tk := KT.tk
    unfold Tl.ready at k
    cases et : tl.t with
    | none =>
      rw [et] at tk k
      exact st_rt (ex_ifT (ans_isN' (val_obj (val_var rfl) KT.ob S.c_Talk S.n_Talk_taker kf_taker) (by rw [tk.1]; rfl)) (val_c _ k))
    | some t =>
      rw [et] at tk k
      obtain ⟨rfl, ut, TU⟩ := tk
      exact st_rt (ex_ifF (ans_isN' (val_obj (val_var rfl) KT.ob S.c_Talk S.n_Talk_taker kf_taker) rfl) (ex_mt (val_obj (val_var rfl) KT.ob S.c_Talk S.n_Talk_taker kf_taker) TU.ob (by kernel_rfl) arg_nil ⟨_, _, ut, t, rfl, TU, k⟩))
theorem ok_Talk_read (S : Says K mg) (F_Taker_read : Mt P w K mg base 2 "Taker" "read" ["self", "many"] (spTRead K)) : Mt P w K mg base 3 "Talk" "read" ["self", "many"] (spKRead K) := by
  obtain ⟨fd, F⟩ := S.u_Talk_read
  have sc : FnScope ["self", "many"] ["self", "many"] (defScope s_Talk_read) := ⟨rfl, rfl, rfl, by decide +kernel, rfl, by decide +kernel, by decide +kernel⟩
  refine ⟨⟨fd, F.ok sc (fun vs H Q E h => ?_) (fun cdv A outer s H vs Q E hr h => ⟨_, PSs.nox (pss_cons (ps_if (PW.pt (pw_or (pt_not (pt_val (pe_isi S.f_isinstance S.f_int boot_int (pv 1)))) (pw_or (pt_val (pe_isi S.f_isinstance S.f_bool boot_bool (pv 1))) (pw_or1 (pt_cmpR op_lt (pv 1) pe_int (nomark _)))))) (pss_one ps_never) pss_nil)
      (pss_one (ps_ret (pe_ifExp (pt_cmpR op_isN (pe_fld (pv 0) rfl) pe_non (nomark _)) (pe_tup pa_nil) (pe_mt (pe_fld (pv 0) rfl) F_Taker_read (hr.mono (by decide)) (pa_cons (pv 1) pa_nil)))))), ?_⟩), F.bindsN (fun _ _ _ _ _ _ us hl => match us, hl with | [_, _], _ => rfl)⟩, S.c_Talk, S.m_Talk_read⟩
  · obtain ⟨_, _, _, _, rfl, _⟩ := h
    rfl
  · obtain ⟨a, m, n, tl, rfl, ⟨tv, KT⟩, k⟩ := h
    have tk := KT.tk
    refine sq_no (ans_or (b := false) (ans_not (b := true) (ans_val (isi_int_int _ (val_var rfl)))) (ans_or (b := false) (ans_val (isi_int_bool _ (val_var rfl))) (ans_rI0 (val_var rfl) val_c (by exact congrArg V.bl (decide_eq_false (by first | omega | (dsimp only; omega))))))) ?_
    cases et : tl.t with
    | none =>
      rw [et] at tk
      refine st_rt (ex_ifT (ans_isN' (val_obj (val_var rfl) KT.ob S.c_Talk S.n_Talk_taker kf_taker) (by rw [tk.1]; rfl)) (ta_nil ⟨by show 0 ≤ sizeLine; decide, fun b hb => k b _ ?_ (Stp.same (Same.new hb)) ?_⟩))
      · have : tl.read m = tl := by unfold Tl.read; rw [et]; cases tl; cases et; rfl
        rw [this]
        exact ⟨tv, KT.same (Same.new hb)⟩
      · unfold Tl.readOut; rw [et]; exact upd_same
    | some t =>
      rw [et] at tk
      obtain ⟨rfl, ut, TU⟩ := tk
      refine st_rt (ex_ifF (ans_isN' (val_obj (val_var rfl) KT.ob S.c_Talk S.n_Talk_taker kf_taker) rfl) (ex_mt (val_obj (val_var rfl) KT.ob S.c_Talk S.n_Talk_taker kf_taker) TU.ob (by kernel_rfl) (arg_cons (val_var rfl) arg_nil) ⟨_, _, ut, m, t, rfl, TU, fun b u' H1 U1 F1 h1 => ?_⟩))
      have q := KT.taken et (.inl rfl) U1 (F1.mono (by simp))
      refine k b H1 ?_ q.2 ?_
      · have : tl.read m = { tl with t := some (t.read m) } := by unfold Tl.read; rw [et]; rfl
        rw [this]
        exact q.1
      · unfold Tl.readOut; rw [et]; exact h1
theorem ok_Talk_write (S : Says K mg) (F_is_data : Fn P w K mg base 2 "is_data" ["thing"] spIsData) (F_Talk_is_over : Mt P w K mg base 4 "Talk" "is_over" ["self"] (spKOver K)) (F_Giver_write : Mt P w K mg base 3 "Giver" "write" ["self", "data"] (spGWrite K)) : Mt P w K mg base 5 "Talk" "write" ["self", "data"] (spKWrite K) := by
  obtain ⟨fd, F⟩ := S.u_Talk_write
  have sc : FnScope ["self", "data"] ["self", "data"] (defScope s_Talk_write) := ⟨rfl, rfl, rfl, by decide +kernel, rfl, by decide +kernel, by decide +kernel⟩
  refine ⟨⟨fd, F.ok sc (fun vs H Q E h => ?_) (fun cdv A outer s H vs Q E hr h => ⟨_, PSs.nox (pss_cons (ps_if (pt_not (pt_val (pe_fn F_is_data (hr.mono (by decide)) (pa_cons (pv 1) pa_nil)))) (pss_one ps_never) pss_nil)
      (pss_one (ps_ret (pe_ifExp (pt_val (pe_mt0 (pv 0) F_Talk_is_over (hr.mono (by decide)))) pe_int (pe_mt (pe_fld (pv 0) rfl) F_Giver_write (hr.mono (by decide)) (pa_cons (pv 1) pa_nil)))))), ?_⟩), F.bindsN (fun _ _ _ _ _ _ us hl => match us, hl with | [_, _], _ => rfl)⟩, S.c_Talk, S.m_Talk_write⟩
  · obtain ⟨_, _, _, _, _, rfl, _⟩ := h
    rfl
  · obtain ⟨a, d, n, tl, ns, rfl, T, ok, hd, hl, h256, hf, hk, k⟩ := h
    refine sq_noS (anss_not (b := true) (anss_val (vals_fn (arg_cons (val_var rfl) arg_nil) fun Q q => ⟨d, ns, rfl, hd, hl, h256, q⟩))) fun H1 s1 => ?_
    refine st_rt (over_s rfl (T.same s1) ok _ fun H2 s2 => ?_)
    have s2 := s1.trans s2
    obtain ⟨tv, KT⟩ := T.same s2
    cases ho : tl.isOver with
    | true =>
      have e1 : tl.write ns = tl := by unfold Tl.write; rw [if_pos ho]
      have e2 : tl.many ns = 0 := by unfold Tl.many; rw [if_pos ho]
      rw [e1, e2] at k
      exact iteT (val_c _ (k H2 ⟨tv, KT⟩ (Stp.same s2)))
    | false =>
      have e1 : tl.write ns = { tl with g := tl.g.write ns } := by unfold Tl.write; rw [if_neg (by rw [ho]; decide)]
      have e2 : tl.many ns = tl.g.many ns := by unfold Tl.many; rw [if_neg (by rw [ho]; decide)]
      rw [e1, e2] at k
      refine iteF (ex_mt (val_obj (val_var rfl) KT.ob S.c_Talk S.n_Talk_giver kf_giver) KT.gv.ob (by kernel_rfl) (arg_cons (val_var rfl) arg_nil) ⟨_, _, d, tl.g, ns, rfl, KT.gv, s2 _ _ hd, hl, h256, hf, hk, fun H3 G3 F3 => ?_⟩)
      have q := KT.given (.inl rfl) G3 F3
      exact k H3 ⟨tv, q.1⟩ ((Stp.same s2).trans q.2)
theorem ok_Talk_finish (S : Says K mg) (F_Talk_is_over : Mt P w K mg base 4 "Talk" "is_over" ["self"] (spKOver K)) (F_Giver_finish : Mt P w K mg base 1 "Giver" "finish" ["self"] (spGFinish K)) : Mt P w K mg base 5 "Talk" "finish" ["self"] (spKFinish K) := by
  obtain ⟨fd, F⟩ := S.u_Talk_finish
  have sc : FnScope ["self"] ["self"] (defScope s_Talk_finish) := ⟨rfl, rfl, rfl, by decide +kernel, rfl, by decide +kernel, by decide +kernel⟩
  refine ⟨⟨fd, F.ok sc (fun vs H Q E h => ?_) (fun cdv A outer s H vs Q E hr h => ⟨_, PSs.nox (pss_one (ps_if (pt_not (pt_val (pe_mt0 (pv 0) F_Talk_is_over (hr.mono (by decide))))) (pss_cons (ps_fld (pv 0) pe_bl rfl)
      (pss_one (ps_expr (pe_mt0 (pe_fld (pv 0) rfl) F_Giver_finish (hr.mono (by decide)))))) pss_nil)), ?_⟩), F.bindsN (fun _ _ _ _ _ _ us hl => match us, hl with | [_], _ => rfl)⟩, S.c_Talk, S.m_Talk_finish⟩
  · obtain ⟨_, _, _, rfl, _⟩ := h
    rfl
  · obtain ⟨a, n, tl, rfl, T, ok, hk, k⟩ := h
    refine anss_not (over_s rfl T ok) _ fun H1 s1 => ?_
    obtain ⟨tv, KT⟩ := T.same s1
    cases ho : tl.isOver with
    | true =>
      have e1 : tl.finish = tl := by unfold Tl.finish; rw [if_pos ho]
      rw [e1] at k
      exact iteF (st_next (k H1 ⟨tv, KT⟩ (Stp.same s1)))
    | false =>
      have e1 : tl.finish = { tl with fin := true, g := tl.g.finish } := by unfold Tl.finish; rw [if_neg (by rw [ho]; decide)]
      rw [e1] at k
      refine iteT (sq_obj val_c (val_var rfl) KT.ob S.c_Talk S.n_Talk_finished kf_few (kp_finished true) fun H2 O2 F2 => ?_)
      have KT2 := KT.own O2 F2
      refine st_dr (ex_mt (val_obj (val_var rfl) KT2.ob S.c_Talk S.n_Talk_giver kf_giver) KT2.gv.ob (by kernel_rfl) arg_nil ⟨_, _, _, rfl, KT2.gv, by dsimp only; omega, fun H3 G3 F3 => ?_⟩)
      have q := KT2.given (.inl rfl) G3 F3
      exact k H3 ⟨tv, q.1⟩ (((Stp.same s1).trans (Stp.fr1 F2)).trans q.2)
theorem ok_Talk_cut (S : Says K mg) (F_Talk_is_over : Mt P w K mg base 4 "Talk" "is_over" ["self"] (spKOver K)) (F_Talk_made : Mt P w K mg base 5 "Talk" "made" ["self", "marks", "number", "data"] (spKMade K)) (F_Giver_next_number : Mt P w K mg base 3 "Giver" "next_number" ["self"] (spGNext K)) : Mt P w K mg base 6 "Talk" "cut" ["self"] (spKCut K) := by
  obtain ⟨fd, F⟩ := S.u_Talk_cut
  have sc : FnScope ["self"] ["self"] (defScope s_Talk_cut) := ⟨rfl, rfl, rfl, by decide +kernel, rfl, by decide +kernel, by decide +kernel⟩
  refine ⟨⟨fd, F.ok sc (fun vs H Q E h => ?_) (fun cdv A outer s H vs Q E hr h => ⟨_, PSs.nox (pss_cons (ps_if (pt_val (pe_mt0 (pv 0) F_Talk_is_over (hr.mono (by decide)))) (pss_one (ps_ret (pe_lst pa_nil))) pss_nil)
      (pss_cons (ps_fld (pv 0) pe_str rfl)
      (pss_one (ps_ret (pe_lst (pa_cons (pe_mt (pv 0) F_Talk_made (hr.mono (by decide)) (pa_cons pe_str (pa_cons (pe_mt0 (pe_fld (pv 0) rfl) F_Giver_next_number (hr.mono (by decide))) (pa_cons (pe_tup pa_nil) pa_nil)))) pa_nil)))))), ?_⟩), F.bindsN (fun _ _ _ _ _ _ us hl => match us, hl with | [_], _ => rfl)⟩, S.c_Talk, S.m_Talk_cut⟩
  · obtain ⟨_, _, _, rfl, _⟩ := h
    rfl
  · obtain ⟨a, n, tl, rfl, T, fit, hfit, k⟩ := h
    refine over_s rfl T fit.ok _ fun H1 s1 => ?_
    obtain ⟨tv, KT⟩ := T.same s1
    cases ho : tl.isOver with
    | true =>
      have e1 : tl.cut = tl := by unfold Tl.cut; rw [if_pos ho]
      have e2 : tl.cutOut = [] := by unfold Tl.cutOut; rw [if_pos ho]
      rw [e1, e2] at k
      refine iteT (st_rt (ta_nil ⟨by show 0 ≤ sizeLine; decide, fun r hr => k r _ (.inl (s1.free hr)) (KT.nfree hr) ⟨tv, KT.same (Same.new hr)⟩ ⟨[], upd_same, All2.nil⟩ (Stp.same (s1.trans (Same.new hr)))⟩))
    | false =>
      have e1 : tl.cut = { tl with ending := .cut } := by unfold Tl.cut; rw [if_neg (by rw [ho]; decide)]
      have e2 : tl.cutOut = [({ tl with ending := .cut } : Tl).made false true false false false tl.g.next []] := by unfold Tl.cutOut; rw [if_neg (by rw [ho]; decide)]
      rw [e1, e2] at k
      rw [e2] at hfit
      refine iteF (st_next ?_)
      dsimp only
      refine sq_obj val_c (val_var rfl) KT.ob S.c_Talk S.n_Talk_ending kf_few (kp_ending .cut) fun H2 O2 F2 => ?_
      have KT2 := KT.own O2 F2
      have st2 : Stp H H2 a n n := (Stp.same s1).trans (Stp.fr1 F2)
      refine st_rt (ex_ce (ex_mte (val_var rfl) KT2.ob (by kernel_rfl) (ex_c1 val_c (ex_c1 (val_mt (val_obj (val_var rfl) KT2.ob S.c_Talk S.n_Talk_giver kf_giver) KT2.gv.ob (by kernel_rfl) arg_nil fun Q q => ⟨_, _, _, rfl, KT2.gv, fit.base, q⟩) (ex_ce (ta_nil ⟨by show 0 ≤ sizeLine; decide, fun e he => ta_nil ?_⟩))))))
      refine ⟨a, n, _, false, true, false, false, false, tl.g.next, e, [], rfl, ⟨_, KT2.same (Same.new he)⟩, fit.tk, fun z => absurd z (by decide), upd_same, hfit _ (by simp), fun x H7 s7 sg => ta_nil ⟨by show 1 ≤ sizeLine; decide, fun r hr => ?_⟩⟩
      obtain ⟨xa, xu, e1, UX⟩ := sg
      have sx := (Same.new he).trans s7
      have KT7 := KT2.same sx
      exact k r _ (st2.fr.free (sx.free hr)) (KT7.nfree hr) ⟨_, KT7.same (Same.new hr)⟩ ⟨_, upd_same, All2.nil.snoc ⟨xa, xu, e1, UX.same (Same.new hr)⟩⟩ (st2.trans (Stp.same (sx.trans (Same.new hr))))
end
end SW
end
section
set_option maxRecDepth 100000
set_option maxHeartbeats 4000000
/-! Giver: heard, again, due. -/
namespace SW
open PySem PySem.Spec PyProof.Rows L2
def spGAgain (K : PySem.W.Frag) : Sp := fun vs H Q _ => ∃ (a lk : Addr) (g : Gv) (t : Nat), vs = [.ref a, .int t] ∧ GiverAt K H a lk g ∧ (∀ s, g.since = some s → s ≤ t) ∧
  ∀ r H', H r = none → GiverAt K H' a lk (g.again t) → PairsAt H' r (g.againPairs t) → Fr [a] H H' → Q (.ref r) H'
def spGDue (K : PySem.W.Frag) : Sp := fun vs H Q _ => ∃ (a lk : Addr) (g : Gv) (t : Nat), vs = [.ref a, .int t] ∧ GiverAt K H a lk g ∧ g.now ≤ t ∧ (∀ s, g.since = some s → s ≤ t) ∧ g.base < 4294967296 ∧ g.kept.length ≤ 6000 ∧
  ∀ r H', H r = none → GiverAt K H' a lk (g.due t) → PairsAt H' r (g.duePairs t) → Fr [a] H H' → Q (.ref r) H'
theorem imin (i j : Nat) : (if (j : Int) < i then (j : Int) else i) = (min i j : Nat) := by split <;> omega
theorem since_count {g : Gv} {t : Nat} (hs : ∀ s, g.since = some s → s ≤ t) : ∀ s, (({ g with now := t } : Gv).count t).since = some s → s ≤ t := by
  unfold Gv.count
  split
  · split
    · intro s e; cases e; exact Nat.le_refl _
    · exact hs
  · intro s e; cases e
theorem kept_due1 (g : Gv) (t : Nat) : (g.due1 t).kept = g.kept := by
  unfold Gv.due1 Gv.again Gv.count
  split <;> split <;> (try split) <;> rfl
theorem base_due1 (g : Gv) (t : Nat) : (g.due1 t).base = g.base := by
  unfold Gv.due1 Gv.again Gv.count
  split <;> split <;> (try split) <;> rfl
section
variable {P : Program} {w : World} {K : PySem.W.Frag} {mg : Str → Option Value} {base : Heap}
theorem ok_Giver_heard (S : Says K mg) (F_Giver_need_tick : Mt P w K mg base 2 "Giver" "need_tick" ["self", "tick"] (spGNeedTick K)) (F_far : Fn P w K mg base 2 "far" ["one", "other", "size"] spFar) (F_Giver_count : Mt P w K mg base 2 "Giver" "count" ["self", "tick"] (spGCount K)) : Mt P w K mg base 3 "Giver" "heard" ["self", "answer", "room", "tick"] (spGHeard K) := by
  obtain ⟨fd, F⟩ := S.u_Giver_heard
  have sc : FnScope ["self", "answer", "room", "tick", "many"] ["self", "answer", "room", "tick"] (defScope s_Giver_heard) := ⟨rfl, rfl, rfl, by decide +kernel, rfl, by decide +kernel, by decide +kernel⟩
  refine ⟨⟨fd, F.ok sc (fun vs H Q E h => ?_) (fun cdv A outer s H vs Q E hr h => ⟨_, PSs.nox (pss_cons (ps_expr (pe_mt (pv 0) F_Giver_need_tick (hr.mono (by decide)) (pa_cons (pv 3) pa_nil)))
      (pss_cons (ps_set (i := 4) sc.nd rfl (Or.inl rfl) (pe_fn F_far (hr.mono (by decide)) (pa_cons (pe_fld (pv 0) rfl) (pa_cons (pv 1) (pa_cons (pe_gi S.i_SIZE_givers) pa_nil)))))
      (pss_cons (ps_if (pt_cmpR op_gt (pv 4) (pe_fld (pv 0) rfl) (nomark _)) (pss_one (ps_ret pe_bl)) pss_nil)
      (pss_cons (ps_fld (pv 0) pe_int rfl)
      (pss_cons (ps_fld (pv 0) (pv 1) rfl)
      (pss_cons (ps_fld (pv 0) (pe_slice sl_list (pe_fld (pv 0) rfl) (po_some (pv 4)) po_none) rfl)
      (pss_cons (ps_fldaug (pv 0) (pv 4) in_sub)
      (pss_cons (ps_fldaug (pv 0) (pv 4) in_add)
      (pss_cons (ps_fld (pv 0) (pe_callB (call_max2 rfl) rfl S.f_max boot_max (pa_cons (pe_op op_sub (pe_fld (pv 0) rfl) (pv 4)) (pa_cons (pv 2) pa_nil))) rfl)
      (pss_cons (ps_if (pt_cmpR op_gt (pv 4) pe_int (nomark _)) (pss_cons (ps_fld (pv 0) (pe_fld (pv 0) rfl) rfl)
      (pss_cons (ps_fld (pv 0) pe_non rfl)
      (pss_one (ps_fld (pv 0) (pe_callB (call_min2 rfl) rfl S.f_min boot_min (pa_cons (pe_gi S.i_MOST_KEPT) (pa_cons (pe_op op_add (pe_fld (pv 0) rfl) (pe_fld (pv 0) rfl)) pa_nil))) rfl)))) pss_nil)
      (pss_cons (ps_expr (pe_mt (pv 0) F_Giver_count (hr.mono (by decide)) (pa_cons (pv 3) pa_nil)))
      (pss_one (ps_ret pe_bl))))))))))))), ?_⟩), F.bindsN (fun _ _ _ _ _ _ us hl => match us, hl with | [_, _, _, _], _ => rfl)⟩, S.c_Giver, S.m_Giver_heard⟩
  · obtain ⟨_, _, _, _, _, _, rfl, _⟩ := h
    rfl
  · obtain ⟨a, lk, g, ans, room, t, rfl, G, ht, hb, ha, k⟩ := h
    refine sq_dr (ex_mt (val_var rfl) G.ob (by kernel_rfl) (arg_cons (val_var rfl) arg_nil) ⟨a, lk, g, t, rfl, G, ht, fun H1 G1 F1 => ?_⟩)
    clear G
    refine sq_av (val_fn (arg_cons (val_obj (val_var rfl) G1.ob S.c_Giver S.n_Giver_base gf_base) (arg_cons (val_var rfl) (arg_cons val_c arg_nil))) fun Q q => ⟨_, _, _, rfl, rfl, hb, ha, q⟩) ?_
    by_cases c : g.sent < far g.base ans
    · refine sq_yes (ans_rI0 (val_var rfl) (val_obj (val_var rfl) G1.ob S.c_Giver S.n_Giver_sent gf_sent) (by rw [decide_eq_true]; show (g.sent : Int) < (far g.base ans : Nat); omega)) ?_
      rw [decide_eq_true c] at k
      refine st_rt (val_c _ (k lk H1 (.inl rfl) ?_ (F1.mono (by simp))))
      have : g.heard ans room t = { g with now := t } := if_pos c
      rw [this]
      exact G1
    · refine sq_no (ans_rI0 (val_var rfl) (val_obj (val_var rfl) G1.ob S.c_Giver S.n_Giver_sent gf_sent) (by rw [decide_eq_false]; show ¬ (g.sent : Int) < (far g.base ans : Nat); omega)) ?_
      rw [decide_eq_false c] at k
      have hm : far g.base ans ≤ g.sent := by omega
      generalize hmany : far g.base ans = many at *
      refine sq_g val_c (val_var rfl) G1 S.c_Giver S.n_Giver_tried (gp_tried 0) fun H2 G2 F2 => ?_
      replace F2 := F1.trans F2
      clear F1 G1
      refine sq_g (val_var rfl) (val_var rfl) G2 S.c_Giver S.n_Giver_base (gp_base ans) fun H3 G3 F3 => ?_
      replace F3 := F2.trans F3
      clear F2 G2
      refine st_seq (slt_e (val_obj (val_var rfl) G3.ob S.c_Giver S.n_Giver_kept gf_kept) (po_v (val_var rfl) (po_n (sl_l G3.kp fun p hp => ?_))))
      have hp0 : H p = none := (F3.free hp).resolve_right (by simp [G3.ob.nn hp])
      refine sto_obj (val_var rfl) (G3.ob.same (Same.new hp)) S.c_Giver S.n_Giver_kept gf_few (gp_kept p) fun H4 O4 F4 => ?_
      have hpa : p ≠ a := G3.ob.nn hp
      have G4 : GiverAt K H4 a p { g with now := t, tried := 0, base := ans, kept := g.kept.drop many } := ⟨O4, by
        rw [F4 _ _ upd_same (by simp [hpa]), cut_drop, List.map_drop]⟩
      replace F4 : Fr [a] H H4 := (F3.trans (Fr.new hp)).trans F4
      clear F3 G3 O4
      dsimp only
      refine sq_ga (val_var rfl) G4 S.c_Giver S.n_Giver_sent gf_sent (val_var rfl) (fun Q q => rd_sub q) (by rw [show ((g.sent : Int) - (many : Nat)) = ((g.sent - many : Nat) : Int) by omega]; exact gp_sent (g.sent - many)) fun H5 G5 F5 => ?_
      replace F5 := F4.trans F5
      clear F4 G4
      refine sq_ga (val_var rfl) G5 S.c_Giver S.n_Giver_passed gf_passed (val_var rfl) (fun Q q => rd_add q) (by rw [show ((g.passed : Int) + (many : Nat)) = ((g.passed + many : Nat) : Int) by omega]; exact gp_passed (g.passed + many)) fun H6 G6 F6 => ?_
      replace F6 := F5.trans F6
      clear F5 G5
      refine sq_g (val_nat (val_max (val_sub (val_obj (val_var rfl) G6.ob S.c_Giver S.n_Giver_reach gf_reach) (val_var rfl)) (val_var rfl)) (m := max (g.reach - many) room) (by dsimp only; split <;> omega)) (val_var rfl) G6 S.c_Giver S.n_Giver_reach (gp_reach _) fun H7 G7 F7 => ?_
      replace F7 := F6.trans F7
      clear F6 G6
      dsimp only at G7
      refine sq_ifJ (b := decide (0 < many)) (ans_rI0 (val_var rfl) val_c (by exact congrArg V.bl (decide_eq_decide.mpr (by first | omega | (dsimp only; omega))))) (fun H8 => GiverAt K H8 a p (g.got ans many room t) ∧ Fr [a] H H8) (fun c2 N q => ?_) (fun c2 N q => ?_) ?_
      · have c2 : 0 < many := of_decide_eq_true c2
        refine sq_g (val_obj (val_var rfl) G7.ob S.c_Giver S.n_Giver_first_wait gf_first_wait) (val_var rfl) G7 S.c_Giver S.n_Giver_wait (gp_wait 4) fun H8 G8 F8 => ?_
        replace F8 := F7.trans F8
        refine sq_g val_c (val_var rfl) G8 S.c_Giver S.n_Giver_since (gp_since none) fun H9 G9 F9 => ?_
        replace F9 := F8.trans F9
        refine st_g (val_nat (val_min val_c (val_add (val_obj (val_var rfl) G9.ob S.c_Giver S.n_Giver_pace gf_pace) (val_obj (val_var rfl) G9.ob S.c_Giver S.n_Giver_most gf_most))) (m := min 512 (g.pace + 32)) (by dsimp only; split <;> omega)) (val_var rfl) G9 S.c_Giver S.n_Giver_pace (gp_pace _) fun HA GA FA => q HA ⟨?_, F9.trans FA⟩
        have e : g.got ans many room t = { g with now := t, tried := 0, base := ans, kept := g.kept.drop many, sent := g.sent - many, passed := g.passed + many, reach := max (g.reach - many) room, wait := 4, since := none, pace := min 512 (g.pace + 32) } := by
          unfold Gv.got
          rw [if_pos c2, if_pos c2, if_pos c2]
        rw [e]
        exact GA
      · have c2 : ¬ 0 < many := of_decide_eq_false c2
        refine st_next (q H7 ⟨?_, F7⟩)
        have e : g.got ans many room t = { g with now := t, tried := 0, base := ans, kept := g.kept.drop many, sent := g.sent - many, passed := g.passed + many, reach := max (g.reach - many) room } := by
          unfold Gv.got
          rw [if_neg c2, if_neg c2, if_neg c2]
        rw [e]
        exact G7
      · rintro H8 ⟨G8, F8⟩
        refine sq_dr (ex_mt (val_var rfl) G8.ob (by kernel_rfl) (arg_cons (val_var rfl) arg_nil) ⟨a, p, _, t, rfl, G8, fun H9 G9 F9 => ?_⟩)
        refine st_rt (val_c _ (k p H9 (.inr hp0) ?_ ((F8.trans F9).mono (by simp))))
        have e : g.heard ans room t = (g.got ans many room t).count t := by
          unfold Gv.heard
          rw [hmany, if_neg c]
        rw [e]
        exact G9
theorem ok_Giver_again (S : Says K mg)  : Mt P w K mg base 1 "Giver" "again" ["self", "tick"] (spGAgain K) := by
  obtain ⟨fd, F⟩ := S.u_Giver_again
  have sc : FnScope ["self", "tick"] ["self", "tick"] (defScope s_Giver_again) := ⟨rfl, rfl, rfl, by decide +kernel, rfl, by decide +kernel, by decide +kernel⟩
  refine ⟨⟨fd, F.ok sc (fun vs H Q E h => ?_) (fun cdv A outer s H vs Q E hr h => ⟨_, PSs.nox (pss_cons (ps_if (PW.pt (pw_or (pt_cmpR op_isN (pe_fld (pv 0) rfl) pe_non (nomark _)) (pw_or1 (pt_cmpR op_lt (pe_op op_sub (pv 1) (pe_fld (pv 0) rfl)) (pe_fld (pv 0) rfl) (nomark _))))) (pss_one (ps_ret (pe_lst pa_nil))) pss_nil)
      (pss_cons (ps_fld (pv 0) (pe_callB (call_min2 rfl) rfl S.f_min boot_min (pa_cons (pe_op op_mul pe_int (pe_fld (pv 0) rfl)) (pa_cons (pe_op op_mul (pe_gi S.i_LONGEST) (pe_fld (pv 0) rfl)) pa_nil))) rfl)
      (pss_cons (ps_fld (pv 0) (pv 1) rfl)
      (pss_cons (ps_fldaug (pv 0) pe_int in_add)
      (pss_cons (ps_fld (pv 0) (pe_fld (pv 0) rfl) rfl)
      (pss_one (ps_ret (pe_lst (pa_cons (pe_tup (pa_cons (pe_fld (pv 0) rfl) (pa_cons (pe_callTy call_tuple_of rfl S.f_tuple boot_tuple (pa_cons (pe_slice sl_list (pe_fld (pv 0) rfl) po_none (po_some (pe_callB (call_min2 rfl) rfl S.f_min boot_min (pa_cons (pe_fld (pv 0) rfl) (pa_cons (pe_fld (pv 0) rfl) pa_nil))))) pa_nil)) pa_nil))) pa_nil))))))))), ?_⟩), F.bindsN (fun _ _ _ _ _ _ us hl => match us, hl with | [_, _], _ => rfl)⟩, S.c_Giver, S.m_Giver_again⟩
  · obtain ⟨_, _, _, _, rfl, _⟩ := h
    rfl
  · obtain ⟨a, lk, g, t, rfl, G, hs, k⟩ := h
    have none_ : g.isAgain t = false → ∀ r, H r = none → Q (.ref r) (upd H r (.lst [])) := fun e r hr => by
      have e1 : g.again t = g := by unfold Gv.again; rw [if_neg (by rw [e]; decide)]
      have e2 : g.againPairs t = [] := by unfold Gv.againPairs; rw [if_neg (by rw [e]; decide)]
      rw [e1, e2] at k
      exact k r _ hr (G.same (Same.new hr)) ⟨[], upd_same, All2.nil⟩ (Fr.new hr)
    have nn : g.isAgain t = false → tLst tNil (L2.start ["self", "tick"] [V.ref a, V.int t]) H Q := fun e => ta_nil ⟨by show 0 ≤ sizeLine; decide, fun r hr => none_ e r hr⟩
    cases e : g.since with
    | none =>
      refine sq_yes (ans_or1 (ans_isN' (val_to (y := .non) (val_obj (val_var rfl) G.ob S.c_Giver S.n_Giver_since gf_since) (by rw [e]; rfl)) rfl)) ?_
      exact st_rt (nn (by unfold Gv.isAgain; rw [e]))
    | some s =>
      have hst := hs s e
      have vs : ∀ σ : L2.St, σ[0]? = some (some (.ref a)) → Val (tFld K (tVar 0) "since") σ H (.int s) := fun σ h0 => val_to (val_obj (val_var h0) G.ob S.c_Giver S.n_Giver_since gf_since) (by rw [e]; rfl)
      have ei : g.isAgain t = decide (s + g.wait ≤ t) := by unfold Gv.isAgain; rw [e]
      by_cases c : s + g.wait ≤ t
      · rw [decide_eq_true c] at ei
        refine sq_no (ans_or (b := false) (ans_isN' (vs _ rfl) rfl) (ans_rI0 (val_sub (val_var rfl) (vs _ rfl)) (val_obj (val_var rfl) G.ob S.c_Giver S.n_Giver_wait gf_wait) (by exact congrArg V.bl (decide_eq_false (by first | omega | (dsimp only; omega)))))) ?_
        refine sq_g (val_nat (val_min (val_rI val_c (val_obj (val_var rfl) G.ob S.c_Giver S.n_Giver_wait gf_wait) (.inl (by decide +kernel))) (val_rI val_c (val_obj (val_var rfl) G.ob S.c_Giver S.n_Giver_first_wait gf_first_wait) (.inl (by decide +kernel)))) (m := min (2 * g.wait) 64) (by split <;> omega)) (val_var rfl) G S.c_Giver S.n_Giver_wait (gp_wait _) fun H1 G1 F1 => ?_
        refine sq_g (val_var rfl) (val_var rfl) G1 S.c_Giver S.n_Giver_since (gp_since (some t)) fun H2 G2 F2 => ?_
        replace F2 := F1.trans F2
        refine sq_ga (val_var rfl) G2 S.c_Giver S.n_Giver_tried gf_tried val_c (fun Q q => rd_add q) (gp_tried (g.tried + 1)) fun H3 G3 F3 => ?_
        replace F3 := F2.trans F3
        refine sq_g (val_obj (val_var rfl) G3.ob S.c_Giver S.n_Giver_most gf_most) (val_var rfl) G3 S.c_Giver S.n_Giver_pace (gp_pace 32) fun H4 G4 F4 => ?_
        replace F4 := F3.trans F4
        dsimp only at G4
        have e1 : g.again t = { g with wait := min (2 * g.wait) 64, since := some t, tried := g.tried + 1, pace := 32 } := by unfold Gv.again; rw [if_pos ei]
        have e2 : g.againPairs t = [(g.base, g.kept.take (min 32 g.sent))] := by unfold Gv.againPairs; rw [if_pos ei]
        rw [e1, e2] at k
        refine st_rt (ex_ce (ex_c1 (val_obj (val_var rfl) G4.ob S.c_Giver S.n_Giver_base gf_base) (ex_ce (ex_cbe (ex_ce (slt_e (val_obj (val_var rfl) G4.ob S.c_Giver S.n_Giver_kept gf_kept) (po_n (po_v (val_nat (val_min (val_obj (val_var rfl) G4.ob S.c_Giver S.n_Giver_most gf_most) (val_obj (val_var rfl) G4.ob S.c_Giver S.n_Giver_sent gf_sent)) (m := min 32 g.sent) (by dsimp only; split <;> omega)) (sl_l G4.kp fun p hp => ?_)))))))))
        refine ta_nil ⟨p, _, rfl, .inl ⟨SqL.of upd_same, fun d hd => ta_nil ⟨by show 2 ≤ sizeLine; decide, fun b hb => ta_nil ⟨by show 1 ≤ sizeLine; decide, fun r hr => ?_⟩⟩⟩⟩
        have sm := ((Same.new (o := .lst (cutV (g.kept.map It.v) none (some ((min 32 g.sent : Nat) : Int)))) hp).trans (Same.new (o := .tup (cutV (g.kept.map It.v) none (some ((min 32 g.sent : Nat) : Int)))) hd)).trans (Same.new (o := .tup [.int g.base, .ref d]) hb)
        have hda : d ≠ a := (G4.ob.same (Same.new hp)).nn hd
        refine k r _ ((F4.free (sm.free hr)).resolve_right ?_) (G4.same (sm.trans (Same.new hr))) ⟨_, upd_same, All2.nil.snoc ⟨b, d, rfl, upd_at upd_same hr, ?_⟩⟩ (F4.trans (Fr.same (sm.trans (Same.new hr))))
        · simp [(G4.ob.same sm).nn hr]
        · rw [upd_at (upd_at upd_same hb) hr, cut_take, List.map_take]
      · rw [decide_eq_false c] at ei
        refine sq_yes (ans_or (b := true) (ans_isN' (vs _ rfl) rfl) (ans_rI0 (val_sub (val_var rfl) (vs _ rfl)) (val_obj (val_var rfl) G.ob S.c_Giver S.n_Giver_wait gf_wait) (by exact congrArg V.bl (decide_eq_true (by first | omega | (dsimp only; omega)))))) ?_
        exact st_rt (nn ei)
theorem ok_Giver_due (S : Says K mg) (F_Giver_need_tick : Mt P w K mg base 2 "Giver" "need_tick" ["self", "tick"] (spGNeedTick K)) (F_Giver_count : Mt P w K mg base 2 "Giver" "count" ["self", "tick"] (spGCount K)) (F_Giver_again : Mt P w K mg base 1 "Giver" "again" ["self", "tick"] (spGAgain K)) (F_Giver_next_number : Mt P w K mg base 3 "Giver" "next_number" ["self"] (spGNext K)) : Mt P w K mg base 4 "Giver" "due" ["self", "tick"] (spGDue K) := by
  obtain ⟨fd, F⟩ := S.u_Giver_due
  have sc : FnScope ["self", "tick", "found", "end", "many"] ["self", "tick"] (defScope s_Giver_due) := ⟨rfl, rfl, rfl, by decide +kernel, rfl, by decide +kernel, by decide +kernel⟩
  refine ⟨⟨fd, F.ok sc (fun vs H Q E h => ?_) (fun cdv A outer s H vs Q E hr h => ⟨_, PSs.nox (pss_cons (ps_expr (pe_mt (pv 0) F_Giver_need_tick (hr.mono (by decide)) (pa_cons (pv 1) pa_nil)))
      (pss_cons (ps_expr (pe_mt (pv 0) F_Giver_count (hr.mono (by decide)) (pa_cons (pv 1) pa_nil)))
      (pss_cons (ps_set (i := 2) sc.nd rfl (Or.inl rfl) (pe_mt (pv 0) F_Giver_again (hr.mono (by decide)) (pa_cons (pv 1) pa_nil)))
      (pss_cons (ps_set (i := 3) sc.nd rfl (Or.inl rfl) (pe_callB (call_min3Nu rfl) rfl S.f_min boot_min (pa_cons (pe_callB call_len rfl S.f_len boot_len (pa_cons (pe_fld (pv 0) rfl) pa_nil)) (pa_cons (pe_fld (pv 0) rfl) (pa_cons (pe_fld (pv 0) rfl) pa_nil)))))
      (pss_cons (ps_while PassesOwn.never (pt_cmpR op_lt (pe_fld (pv 0) rfl) (pv 3) (nomark _)) (pss_cons (ps_set (i := 4) sc.nd rfl (Or.inl rfl) (pe_callB (call_min2 rfl) rfl S.f_min boot_min (pa_cons (pe_fld (pv 0) rfl) (pa_cons (pe_op op_sub (pv 3) (pe_fld (pv 0) rfl)) pa_nil))))
      (pss_cons (ps_expr (pe_bm PySem.F.plainAttrs_list PySem.F.slot_list_append PySem.F.type_list_append mt_append (pv 2) (pa_cons (pe_tup (pa_cons (pe_mt0 (pv 0) F_Giver_next_number (hr.mono (by decide))) (pa_cons (pe_callTy call_tuple_of rfl S.f_tuple boot_tuple (pa_cons (pe_slice sl_list (pe_fld (pv 0) rfl) (po_some (pe_fld (pv 0) rfl)) (po_some (pe_op op_add (pe_fld (pv 0) rfl) (pv 4)))) pa_nil)) pa_nil))) pa_nil)))
      (pss_one (ps_fldaug (pv 0) (pv 4) in_add)))))
      (pss_cons (ps_expr (pe_mt (pv 0) F_Giver_count (hr.mono (by decide)) (pa_cons (pv 1) pa_nil)))
      (pss_one (ps_ret (pv 2))))))))), ?_⟩), F.bindsN (fun _ _ _ _ _ _ us hl => match us, hl with | [_, _], _ => rfl)⟩, S.c_Giver, S.m_Giver_due⟩
  · obtain ⟨_, _, _, _, rfl, _⟩ := h
    rfl
  · obtain ⟨a, lk, g, t, rfl, G, hn, hs, hb, hk, k⟩ := h
    refine sq_dr (ex_mt (val_var rfl) G.ob (by kernel_rfl) (arg_cons (val_var rfl) arg_nil) ⟨a, lk, g, t, rfl, G, hn, fun H1 G1 F1 => ?_⟩)
    refine sq_dr (ex_mt (val_var rfl) G1.ob (by kernel_rfl) (arg_cons (val_var rfl) arg_nil) ⟨a, lk, _, t, rfl, G1, fun H2 G2 F2 => ?_⟩)
    replace F2 := F1.trans F2
    refine sq_as (ex_mt (val_var rfl) G2.ob (by kernel_rfl) (arg_cons (val_var rfl) arg_nil) ⟨a, lk, _, t, rfl, G2, since_count hs, fun r H3 hr G3 P3 F3 => ?_⟩)
    have hr0 : H r = none := (F2.free hr).resolve_right (by simp [G2.ob.nn hr])
    replace F3 := F2.trans F3
    have hra : r ≠ a := G2.ob.nn hr
    have hrl : r ≠ lk := ne_of_none G2.kp hr |>.symm
    change GiverAt K H3 a lk (g.due1 t) at G3
    clear G G1 G2 F1 F2 hr
    have hk1 : (g.due1 t).kept = g.kept := kept_due1 g t
    have hb1 : (g.due1 t).base = g.base := base_due1 g t
    have hl := val_len_lst (K := K) (σ := (L2.start ["self", "tick", "found", "end", "many"] [V.ref a, V.int t]).set 2 (some (.ref r))) (val_obj (f := "kept") (val_var (i := 0) rfl) G3.ob S.c_Giver S.n_Giver_kept gf_kept) (SqL.of G3.kp)
    rw [List.length_map] at hl
    refine sq_av (val_nat (val_min3 hl (val_obj (val_var rfl) G3.ob S.c_Giver S.n_Giver_reach gf_reach) (val_obj (val_var rfl) G3.ob S.c_Giver S.n_Giver_pace gf_pace)) (m := (g.due1 t).last) (by unfold Gv.last; split <;> split <;> omega)) ?_
    refine sq_while (fun m σ' H' => ∃ (mv : Option V) (s : Nat) (ps : List (Nat × List It)), σ' = (((L2.start ["self", "tick", "found", "end", "many"] [V.ref a, V.int t]).set 2 (some (.ref r))).set 3 (some (.int ((g.due1 t).last : Nat)))).set 4 mv ∧ m = (g.due1 t).last - s ∧ max s (g.due1 t).last = max (g.due1 t).sent (g.due1 t).last ∧
      ps ++ chunks (g.due1 t).base (g.due1 t).kept s (g.due1 t).last = g.duePairs t ∧ ps.length ≤ 1 + s ∧ GiverAt K H' a lk { g.due1 t with sent := s } ∧ PairsAt H' r ps ∧ Fr [a] H H') ((g.due1 t).last - (g.due1 t).sent) ⟨none, (g.due1 t).sent, _, rfl, rfl, rfl, rfl, ?_, G3, P3, F3⟩ ?_
    · unfold Gv.againPairs
      split <;> simp <;> omega
    rintro m σ' H' ⟨mv, s, ps, rfl, rfl, hs1, hp1, hp2, G4, P4, F4⟩
    refine ⟨decide (s < (g.due1 t).last), ans_rI0 (val_obj (val_var rfl) G4.ob S.c_Giver S.n_Giver_sent gf_sent) (val_var rfl) (by exact congrArg V.bl (decide_eq_decide.mpr (by first | omega | (dsimp only; omega)))), fun hc N q => ?_, fun hc => ?_⟩
    · have hc : s < (g.due1 t).last := of_decide_eq_true hc
      refine sq_av (val_nat (val_min (val_obj (val_var rfl) G4.ob S.c_Giver S.n_Giver_most gf_most) (val_sub (val_var rfl) (val_obj (val_var rfl) G4.ob S.c_Giver S.n_Giver_sent gf_sent))) (m := min 32 ((g.due1 t).last - s)) (by dsimp only; split <;> omega)) ?_
      obtain ⟨xs, hx, hall⟩ := P4
      have hlk : (g.due1 t).last ≤ g.kept.length := by unfold Gv.last; rw [hk1]; omega
      refine sq_dr (ex_bme (val_var rfl) (ty_lst hx) (ex_ce (ex_c1 (val_mt (val_var rfl) G4.ob (by kernel_rfl) arg_nil fun Q q => ⟨a, lk, _, rfl, G4, by rw [hb1]; exact hb, q⟩) (ex_ce (ex_cbe (ex_ce (slt_e (val_obj (val_var rfl) G4.ob S.c_Giver S.n_Giver_kept gf_kept) (po_v (val_obj (val_var rfl) G4.ob S.c_Giver S.n_Giver_sent gf_sent) (po_v (val_nat (val_add (val_obj (val_var rfl) G4.ob S.c_Giver S.n_Giver_sent gf_sent) (val_var rfl)) (m := s + min 32 ((g.due1 t).last - s)) (by dsimp only; omega)) (sl_l G4.kp fun p hp => ?_)))))))))) 
      refine ta_nil ⟨p, _, rfl, .inl ⟨SqL.of upd_same, fun d hd => ta_nil ⟨by show 2 ≤ sizeLine; decide, fun b hb => ta_nil ⟨r, xs, _, rfl, rfl, upd_at (upd_at (upd_at hx hp) hd) hb, ?_, ?_⟩⟩⟩⟩
      · rw [hall.1, sizeLine_eq]; omega
      have sm := ((Same.new (o := .lst (cutV ((g.due1 t).kept.map It.v) (some ((s : Nat) : Int)) (some ((s + min 32 ((g.due1 t).last - s) : Nat) : Int)))) hp).trans (Same.new (o := .tup (cutV ((g.due1 t).kept.map It.v) (some ((s : Nat) : Int)) (some ((s + min 32 ((g.due1 t).last - s) : Nat) : Int)))) hd)).trans (Same.new (o := .tup [.int ((({ g.due1 t with sent := s } : Gv).next : Nat) : Int), .ref d]) hb)
      have hbr : b ≠ r := (ne_of_none (upd_at (upd_at hx hp) hd) hb).symm
      have hdr : d ≠ r := (ne_of_none (upd_at hx hp) hd).symm
      have G5 := (G4.same sm).fr (Fr.up (a := r) (o := .lst (xs ++ [.ref b]))) (by simp [hra.symm]) (by simp [hrl.symm])
      refine st_ga (val_var rfl) G5 S.c_Giver S.n_Giver_sent gf_sent (val_var rfl) (fun Q q => rd_add q) (by rw [show ((s : Int) + (min 32 ((g.due1 t).last - s) : Nat)) = ((s + min 32 ((g.due1 t).last - s) : Nat) : Int) by omega]; exact gp_sent _) fun H6 G6 F6 => q ((g.due1 t).last - (s + min 32 ((g.due1 t).last - s))) _ _ (by omega) ⟨_, s + min 32 ((g.due1 t).last - s), ps ++ [(moved (g.due1 t).base s, ((g.due1 t).kept.drop s).take (min 32 ((g.due1 t).last - s)))], rfl, rfl, by omega, ?_, ?_, G6, ?_, ?_⟩
      · rw [← hp1, List.append_assoc]
        conv => rhs; rw [chunks, dif_pos hc]
        rfl
      · rw [List.length_append]; simp only [List.length_cons, List.length_nil]; omega
      · refine PairsAt.fr (F := [a]) ⟨_, upd_same, (hall.mono fun x p h => ?_).snoc ⟨b, d, rfl, ?_, ?_⟩⟩ F6 (by simp only [List.mem_singleton, forall_eq]; exact G5.ob.nt) (by simp [hra])
        · exact (h.fr (F := []) (Fr.same sm) (fun a h => absurd h List.not_mem_nil)).fr Fr.up (by simp only [List.mem_singleton, forall_eq]; intro xs' e; rw [sm _ _ hx] at e; cases e)
        · rw [upd_ne hbr]
          exact upd_same
        · rw [upd_ne hdr, upd_at upd_same hb, cut_mid, List.map_take, List.map_drop]
      · exact ((F4.trans (Fr.same sm)).on (F := [a, r]) (Fr.up (a := r) (o := .lst (xs ++ [.ref b])))).on (F := [a, r]) F6 |>.clean (by simp [hr0])
    · have hc : ¬ s < (g.due1 t).last := of_decide_eq_false hc
      refine sq_dr (ex_mt (val_var rfl) G4.ob (by kernel_rfl) (arg_cons (val_var rfl) arg_nil) ⟨a, lk, _, t, rfl, G4, fun H5 G5 F5 => ?_⟩)
      refine st_rt ((val_var rfl) _ (k r H5 hr0 ?_ ?_ (F4.trans F5)))
      · have e : g.due t = ({ g.due1 t with sent := s } : Gv).count t := by
          unfold Gv.due Gv.fill
          rw [← hs1, Nat.max_eq_left (by omega)]
        rw [e]
        exact G5
      · rw [← hp1, chunks, dif_neg hc, List.append_nil]
        exact P4.fr F5 (by simp only [List.mem_singleton, forall_eq]; exact G4.ob.nt) (by simp [hra])
end
end SW
end
section
set_option maxRecDepth 100000
set_option maxHeartbeats 4000000
/-! Talk.due; a talk made. -/
namespace SW
open PySem PySem.Spec PyProof.Rows L2
theorem chunks_few (b : Nat) (k : List It) : ∀ (m s l : Nat), l - s ≤ m → (chunks b k s l).length ≤ m ∧ ∀ p ∈ chunks b k s l, p.2.length ≤ 32
  | 0, s, l, h => by rw [chunks, dif_neg (by omega)]; exact ⟨Nat.le_refl _, fun p hp => absurd hp List.not_mem_nil⟩
  | m + 1, s, l, h => by
    rw [chunks]
    by_cases c : s < l
    · rw [dif_pos c]
      have ih := chunks_few b k m (s + min 32 (l - s)) l (by omega)
      refine ⟨by rw [List.length_cons]; omega, fun p hp => ?_⟩
      rcases List.mem_cons.mp hp with e | e
      · rw [e]; dsimp only; rw [List.length_take]; omega
      · exact ih.2 p e
    · rw [dif_neg c]
      exact ⟨Nat.zero_le _, fun p hp => absurd hp List.not_mem_nil⟩
theorem duePairs_few (g : Gv) (t : Nat) : (g.duePairs t).length ≤ g.kept.length + 1 ∧ ∀ p ∈ g.duePairs t, p.2.length ≤ 32 := by
  have hc := chunks_few (g.due1 t).base (g.due1 t).kept ((g.due1 t).last - (g.due1 t).sent) (g.due1 t).sent (g.due1 t).last (Nat.le_refl _)
  have hl : (g.due1 t).last ≤ g.kept.length := by unfold Gv.last; rw [kept_due1]; omega
  unfold Gv.duePairs
  refine ⟨?_, fun p hp => ?_⟩
  · rw [List.length_append]
    have : ((({ g with now := t } : Gv).count t).againPairs t).length ≤ 1 := by unfold Gv.againPairs; split <;> simp
    omega
  · rcases List.mem_append.mp hp with h | h
    · unfold Gv.againPairs at h
      split at h
      · rw [List.mem_singleton] at h
        rw [h]; dsimp only; rw [List.length_take]; omega
      · cases h
    · exact hc.2 p h
theorem lst_nsg {K : PySem.W.Frag} {H : Hp} {D : Addr} {xs : List V} (h : H D = some (.lst xs)) : (∀ a ∈ [D], ∀ ys, H a ≠ some (.tup ys)) ∧ ∀ a ∈ [D], ∀ s u, ¬ ObjAt (He.ga K "Segment") H a (sf s u) := by
  exact ⟨fun a ha ys e => (by rw [List.mem_singleton.mp ha, h] at e; cases e), fun a ha s u q => (by rw [List.mem_singleton.mp ha] at q; exact q.lst h rfl)⟩
def spKDue (K : PySem.W.Frag) : Sp := fun vs H Q _ => ∃ (a : Addr) (n : Nm) (tl : Tl) (t : Nat), vs = [.ref a, .int t] ∧ TalkAt K H a n tl ∧ TlFit tl ∧ tl.last ≤ t ∧ tl.g.now ≤ t ∧ (∀ s, tl.g.since = some s → s ≤ t) ∧ tl.g.kept.length ≤ 6000 ∧ (∀ x ∈ tl.dueOut t, SegFit x) ∧
  ∀ n' r H', (H r = none ∨ r ∈ n.all a) → r ∉ n'.all a → TalkAt K H' a n' (tl.due t) → OutAt K H' r (tl.dueOut t) → Stp H H' a n n' → Q (.ref r) H'
section
variable {P : Program} {w : World} {K : PySem.W.Frag} {mg : Str → Option Value} {base : Heap}
theorem ok_Talk_due (S : Says K mg) (F_Talk_pass_to : Mt P w K mg base 2 "Talk" "pass_to" ["self", "tick"] (spKPass K)) (F_Talk_is_over : Mt P w K mg base 4 "Talk" "is_over" ["self"] (spKOver K)) (F_Giver_due : Mt P w K mg base 4 "Giver" "due" ["self", "tick"] (spGDue K)) (F_Giver_tries : Mt P w K mg base 1 "Giver" "tries" ["self"] (spGTries K)) (F_Talk_segment_of : Mt P w K mg base 6 "Talk" "segment_of" ["self", "number", "items"] (spKSegOf K)) : Mt P w K mg base 7 "Talk" "due" ["self", "tick"] (spKDue K) := by
  obtain ⟨fd, F⟩ := S.u_Talk_due
  have sc : FnScope ["self", "tick", "pairs", "number", "items"] ["self", "tick"] (defScope s_Talk_due) := ⟨rfl, rfl, rfl, by decide +kernel, rfl, by decide +kernel, by decide +kernel⟩
  refine ⟨⟨fd, F.ok sc (fun vs H Q E h => ?_) (fun cdv A outer s H vs Q E hr h => ⟨_, PSs.nox (pss_cons (ps_expr (pe_mt (pv 0) F_Talk_pass_to (hr.mono (by decide)) (pa_cons (pv 1) pa_nil)))
      (pss_cons (ps_if (pt_val (pe_mt0 (pv 0) F_Talk_is_over (hr.mono (by decide)))) (pss_one (ps_ret (pe_lst pa_nil))) pss_nil)
      (pss_cons (ps_set (i := 2) sc.nd rfl (Or.inl rfl) (pe_mt (pe_fld (pv 0) rfl) F_Giver_due (hr.mono (by decide)) (pa_cons (pv 1) pa_nil)))
      (pss_cons (ps_if (pt_cmpR op_ge (pe_mt0 (pe_fld (pv 0) rfl) F_Giver_tries (hr.mono (by decide))) (pe_gi S.i_MOST_TRIES) (nomark _)) (pss_cons (ps_fld (pv 0) pe_str rfl)
      (pss_one (ps_ret (pe_lst pa_nil)))) pss_nil)
      (pss_one (ps_ret (pe_lc (own := [("number", 3), ("items", 4)]) (g := gTup K 2 (gCons (gName 3) (gCons (gName 4) gNil))) rfl sc.nd (pi_list (pv 2)) (blkOk_by (own := [("number", 3), ("items", 4)]) (N := ["self", "tick", "pairs", "number", "items"]) (sc := defScope s_Talk_due) (by decide +kernel)) (fun _ _ _ _ _ => pg_tupK K rfl (pgs_cons (pg_name (i := 3) sc.nd rfl (Or.inl rfl)) (pgs_cons (pg_name (i := 4) sc.nd rfl (Or.inl rfl)) pgs_nil))) (fun _ _ _ _ _ => pts_nil) (fun _ _ _ _ _ => (pe_mtK K (pv 0) F_Talk_segment_of (hr.mono (by decide)) (pa_cons (pv 3) (pa_cons (pv 4) pa_nil))))))))))), ?_⟩), F.bindsN (fun _ _ _ _ _ _ us hl => match us, hl with | [_, _], _ => rfl)⟩, S.c_Talk, S.m_Talk_due⟩
  · obtain ⟨_, _, _, _, rfl, _⟩ := h
    rfl
  · obtain ⟨a, n, tl, t, rfl, ⟨tv, KT⟩, fit, hlast, hnow, hsince, hk, hfit, k⟩ := h
    refine sq_dr (ex_mt (val_var rfl) KT.ob (by kernel_rfl) (arg_cons (val_var rfl) arg_nil) ⟨a, n, tl, t, tv, rfl, KT, hlast, fun H1 KT1 F1 => ?_⟩)
    have st1 : Stp H H1 a n n := Stp.fr1 F1
    refine over_s (tl := tl.at_ t) rfl ⟨tv, KT1⟩ fit.ok _ fun H2 s2 => ?_
    have st2 := st1.trans (Stp.same (a := a) (n := n) s2)
    have KT2 := KT1.same s2
    have few := duePairs_few tl.g t
    by_cases ho : (tl.at_ t).isOver = true
    · have e1 : tl.due t = tl.at_ t := by unfold Tl.due; rw [if_pos ho]
      have e2 : tl.dueOut t = [] := by unfold Tl.dueOut; rw [if_pos ho]
      rw [e1, e2] at k
      rw [ho]
      exact iteT (st_rt (ta_nil ⟨by show 0 ≤ sizeLine; decide, fun r hr => k n r _ (st2.fr.free hr) (KT2.nfree hr) ⟨tv, KT2.same (Same.new hr)⟩ ⟨[], upd_same, All2.nil⟩ (st2.trans (Stp.same (Same.new hr)))⟩))
    · rw [Bool.eq_false_iff.mpr ho]
      refine iteF (st_next ?_)
      dsimp only
      refine sq_as (ex_mt (val_obj (val_var rfl) KT2.ob S.c_Talk S.n_Talk_giver kf_giver) KT2.gv.ob (by kernel_rfl) (arg_cons (val_var rfl) arg_nil) ⟨_, _, tl.g, t, rfl, KT2.gv, hnow, hsince, fit.base, hk, fun r0 H3 hr0 G3 P3 F3 => ?_⟩)
      have q3 := KT2.given (.inl rfl) G3 (F3.mono (by simp))
      have KT3 : TalkV K H3 a n (tl.dueG t) tv := q3.1
      have st3 := st2.trans q3.2
      have hti : Ans (tTest (tOp (rI0 fun i j => V.bl (decide (j ≤ i))) (tMeth (He.ga K "Giver") "tries" (spGTries K) [] E0 (tFld K (tVar 0) "giver") tNil) (tC (.int 16)))) ((L2.start ["self", "tick", "pairs", "number", "items"] [V.ref a, V.int t]).set 2 (some (.ref r0))) H3 (decide (16 ≤ (tl.dueG t).g.tried)) := ans_rI0 (val_mt (val_obj (val_var rfl) KT3.ob S.c_Talk S.n_Talk_giver kf_giver) KT3.gv.ob (by kernel_rfl) arg_nil fun Q q => ⟨_, _, _, rfl, KT3.gv, q⟩) val_c (by exact congrArg V.bl (decide_eq_decide.mpr (by first | omega | (dsimp only; omega))))
      by_cases c : 16 ≤ (tl.dueG t).g.tried
      · have e1 : tl.due t = { tl.dueG t with ending := .gone } := by unfold Tl.due; rw [if_neg ho, if_pos c]
        have e2 : tl.dueOut t = [] := by unfold Tl.dueOut; rw [if_neg ho, if_pos c]
        rw [e1, e2] at k
        rw [decide_eq_true c] at hti
        refine sq_yes hti (sq_obj val_c (val_var rfl) KT3.ob S.c_Talk S.n_Talk_ending kf_few (kp_ending .gone) fun H4 O4 F4 => ?_)
        have KT4 := KT3.own O4 F4
        have st4 := st3.trans (Stp.fr1 F4)
        exact st_rt (ta_nil ⟨by show 0 ≤ sizeLine; decide, fun r hr => k n r _ (st4.fr.free hr) (KT4.nfree hr) ⟨tv, KT4.same (Same.new hr)⟩ ⟨[], upd_same, All2.nil⟩ (st4.trans (Stp.same (Same.new hr)))⟩)
      · have e1 : tl.due t = tl.dueG t := by unfold Tl.due; rw [if_neg ho, if_neg c]
        have e2 : tl.dueOut t = (tl.g.duePairs t).map fun p => (tl.dueG t).segmentOf p.1 p.2 := by unfold Tl.dueOut; rw [if_neg ho, if_neg c]
        rw [e1, e2] at k
        rw [e2] at hfit
        rw [decide_eq_false c] at hti
        refine sq_no hti ?_
        obtain ⟨xs, hxs, hall⟩ := P3
        refine st_rt (ex_lcl (val_var rfl) hxs (fun D i H' => Same H3 H' ∧ ∃ ys, H' D = some (.lst ys) ∧ All2 (SegAt K H') ys (((tl.g.duePairs t).take i).map fun p => (tl.dueG t).segmentOf p.1 p.2)) (fun D hD => ⟨Same.new hD, [], upd_same, All2.nil⟩) (fun D i H' _ p => p.1 _ _ hxs) ?_ ?_)
        · rintro D i x H' hD hx ⟨p1, ys, p2, p3⟩
          obtain ⟨p, hp, b, d, rfl, hb1, hd1⟩ := hall.2 i x hx
          refine g2 (p1 _ _ hb1) ⟨rfl, lc_yes ?_⟩
          have hmem : p ∈ tl.g.duePairs t := List.mem_of_getElem? hp
          refine ex_mt (val_var rfl) (KT3.ob.same p1) (by kernel_rfl) (arg_cons (val_var rfl) (arg_cons (val_var rfl) arg_nil)) ⟨a, n, tl.dueG t, p.1, d, p.2, rfl, ⟨tv, KT3.same p1⟩, fit.tk, p1 _ _ hd1, by have := few.2 p hmem; omega, hfit _ (List.mem_map.mpr ⟨p, hmem, rfl⟩), fun sb H5 s5 sg => ?_⟩
          refine ⟨ys, s5 _ _ p2, ?_, fun b o e => by rw [upd_ne (ne_of_none e hD)]; exact s5 _ _ (p1 b o e), _, upd_same, ?_⟩
          · rw [p3.1, List.length_map, List.length_take, sizeLine_eq]; omega
          · have hl := lst_nsg (K := K) (s5 _ _ p2)
            rw [List.take_add_one, hp, List.map_append]
            exact (p3.mono fun x y z => (z.same s5).fr Fr.up hl.1 hl.2).snoc (sg.fr Fr.up hl.1 hl.2)
        · rintro D H5 hD ⟨p1, ys, p2, p3⟩
          rw [hall.1, List.take_of_length_le (Nat.le_refl _)] at p3
          exact k n D H5 (st3.fr.free hD) (KT3.nfree hD) ⟨tv, KT3.same p1⟩ ⟨ys, p2, p3⟩ (st3.trans (Stp.same p1))
end
end SW
end
section
set_option maxRecDepth 100000
set_option maxHeartbeats 4000000
/-! A talk made. -/
namespace SW
open PySem PySem.Spec PyProof.Rows L2
/-- behind the making -/
def Born (K : PySem.W.Frag) (H : Hp) (a : Addr) (tl : Tl) (k : Hp → Prop) : Prop := ∀ n H', TalkAt K H' a n tl → (∀ x ∈ n.all a, x = a ∨ H x = none) → Fr [a] H H' → k H'
def spKInit4 (K : PySem.W.Frag) : Sp := fun vs H Q _ => ∃ (a here there first t : Nat), vs = [.ref a, .int here, .int there, .int first, .int t, .non] ∧ here < 256 ∧ there < 256 ∧ first < 4294967296 ∧ ObjAt (He.ga K "Talk") H a [] ∧ Born K H a (.new here there first t none) fun H' => Q .non H'
def spKInit5 (K : PySem.W.Frag) : Sp := fun vs H Q _ => ∃ (a here there first t b u : Nat) (s : Sg), vs = [.ref a, .int here, .int there, .int first, .int t, .ref b] ∧ here < 256 ∧ there < 256 ∧ first < 4294967296 ∧ ObjAt (He.ga K "Talk") H a [] ∧ SegU K H b u s ∧ s.number < 4294967296 ∧ Born K H a (.new here there first t (some s.number)) fun H' => Q .non H'
section
variable {P : Program} {w : World} {K : PySem.W.Frag} {mg : Str → Option Value} {base : Heap}
theorem ok_Talk4 (S : Says K mg) (F_is_number_talks : Fn P w K mg base 1 "is_number_talks" ["thing", "beyond"] spIsNumT) (F_need_tick : Fn P w K mg base 1 "need_tick" ["tick", "last"] spNeedTick) (F_Giver : Mr P w K mg base 2 "Giver" ["self", "first", "most", "wait"] [] (spGInit K)) (F_Talk_begin_taker : Mt P w K mg base 4 "Talk" "begin_taker" ["self", "number"] (spKBegin K)) : Mr P w K mg base 5 "Talk" ["self", "here", "there", "first", "tick", "opening"] [.non] (spKInit4 K) := by
  obtain ⟨fd, F⟩ := S.u_Talk_init
  obtain ⟨ds, hv, b⟩ := F.binds1 (ps := ["self", "here", "there", "first", "tick", "opening"]) 5 0 (List.cons_ne_nil _ _) rfl (fun _ _ _ _ _ _ _ us its hl hi => match us, its, hl, hi with | [_, _, _, _, _], [_], _, _ => ⟨_, rfl, by kernel_rfl⟩)
  have sc : FnScope ["self", "here", "there", "first", "tick", "opening"] ["self", "here", "there", "first", "tick", "opening"] (defScope s_Talk_init) := ⟨rfl, rfl, rfl, by decide +kernel, rfl, by decide +kernel, by decide +kernel⟩
  refine ⟨⟨fd, ds, F.ok sc (fun vs H Q E h => ?_) (fun cdv A outer s H vs Q E hr h => ⟨_, PSs.nox (pss_cons (ps_if (PW.pt (pw_or (pt_not (pt_val (pe_fn F_is_number_talks (hr.mono (by decide)) (pa_cons (pv 1) (pa_cons pe_int pa_nil))))) (pw_or1 (pt_not (pt_val (pe_fn F_is_number_talks (hr.mono (by decide)) (pa_cons (pv 2) (pa_cons pe_int pa_nil)))))))) (pss_one ps_never) pss_nil)
      (pss_cons (ps_if (pt_not (pt_val (pe_fn F_is_number_talks (hr.mono (by decide)) (pa_cons (pv 3) (pa_cons (pe_gi S.i_SIZE_talks) pa_nil))))) (pss_one ps_never) pss_nil)
      (pss_cons (ps_expr (pe_fn F_need_tick (hr.mono (by decide)) (pa_cons (pv 4) (pa_cons pe_int pa_nil))))
      (pss_cons (ps_fld (pv 0) (pv 1) rfl)
      (pss_cons (ps_fld (pv 0) (pv 2) rfl)
      (pss_cons (ps_fld (pv 0) (pv 3) rfl)
      (pss_cons (ps_fld (pv 0) (pe_mr F_Giver (hr.mono (by decide)) (pa_cons (pv 3) (pa_cons (pe_gi S.i_MOST_ITEMS) (pa_cons (pe_gi S.i_FIRST_WAIT) pa_nil)))) rfl)
      (pss_cons (ps_fld (pv 0) pe_non rfl)
      (pss_cons (ps_fld (pv 0) pe_non rfl)
      (pss_cons (ps_fld (pv 0) (pv 4) rfl)
      (pss_cons (ps_fld (pv 0) pe_str rfl)
      (pss_cons (ps_fld (pv 0) pe_bl rfl)
      (pss_cons (ps_fld (pv 0) pe_non rfl)
      (pss_one (ps_if (pt_cmpR op_notN (pv 5) pe_non (nomark _)) (pss_one (ps_expr (pe_mt (pv 0) F_Talk_begin_taker (hr.mono (by decide)) (pa_cons (pe_fld (pv 5) rfl) pa_nil)))) pss_nil))))))))))))))), ?_⟩), b, hv⟩, S.k_Talk, S.g_Talk⟩
  · obtain ⟨_, _, _, _, _, rfl, _⟩ := h
    rfl
  · obtain ⟨a, here, there, first, t, rfl, h1, h2, h3, O, k⟩ := h
    have nt : ∀ (σ : L2.St) (te tm : TE) (i n : Int), Val te σ H (.int i) → Val tm σ H (.int n) → 0 ≤ i → i < n → Ans (tNot (tB (tCall spIsNumT [] E0 (tCons te (tCons tm tNil))))) σ H false := fun σ te tm i n v1 v2 v3 v4 => ans_not (b := true) (ans_val (val_fn (arg_cons v1 (arg_cons v2 arg_nil)) fun Q q => ⟨i, n, rfl, v3, v4, q⟩))
    refine sq_no (ans_or (nt _ _ _ _ _ (val_var rfl) val_c (by omega) (by omega)) (nt _ _ _ _ _ (val_var rfl) val_c (by omega) (by omega))) ?_
    refine sq_no (nt _ _ _ _ _ (val_var rfl) val_c (by omega) (by omega)) ?_
    refine sq_dr (ex_fn (arg_cons (val_var rfl) (arg_cons val_c arg_nil)) ⟨_, _, rfl, by omega, ?_⟩)
    have O0 := O
    refine sq_obj (val_var rfl) (val_var rfl) O S.c_Talk S.n_Talk_here (Nat.le_of_ble_eq_true (by kernel_rfl)) rfl fun H1 O F1 => ?_
    refine sq_obj (val_var rfl) (val_var rfl) O S.c_Talk S.n_Talk_there (Nat.le_of_ble_eq_true (by kernel_rfl)) rfl fun H1 O F2 => ?_
    replace F1 := F1.trans F2
    refine sq_obj (val_var rfl) (val_var rfl) O S.c_Talk S.n_Talk_begun_with (Nat.le_of_ble_eq_true (by kernel_rfl)) rfl fun H1 O F2 => ?_
    replace F1 := F1.trans F2
    have O4 := O
    refine st_seq (ex_make (arg_cons (val_var rfl) (arg_cons val_c (arg_cons val_c arg_nil))) fun x dx hx hdx hd => ⟨x, first, rfl, h3, ⟨dx, upd_same⟩, fun lk H2 hlk G FG => ⟨rfl, ?_⟩⟩)
    have sm := Same.made (C := He.ga K "Giver") hx hdx hd
    have s2 : Same H1 H2 := fun b o e => FG b o (sm b o e) (by simp [ne_of_none e hx])
    have hxa : x ≠ a := O4.nn hx
    have hla : lk ≠ a := O4.nn (sm.free hlk)
    have hx0 : H x = none := (F1.free hx).resolve_right (by simp [hxa])
    have hl0 : H lk = none := (F1.free (sm.free hlk)).resolve_right (by simp [hla])
    refine sto_obj (val_var rfl) (O.same s2) S.c_Talk S.n_Talk_giver (Nat.le_of_ble_eq_true (by kernel_rfl)) rfl fun H1 O F2 => ?_
    replace F1 := (F1.trans (Fr.same s2)).trans F2
    replace G := G.fr F2 (by simp [hxa]) (by simp [hla])
    refine sq_obj val_c (val_var rfl) O S.c_Talk S.n_Talk_taker (Nat.le_of_ble_eq_true (by kernel_rfl)) rfl fun H1 O F2 => ?_
    replace F1 := F1.trans F2
    replace G := G.fr F2 (by simp [hxa]) (by simp [hla])
    refine sq_obj val_c (val_var rfl) O S.c_Talk S.n_Talk_other_first (Nat.le_of_ble_eq_true (by kernel_rfl)) rfl fun H1 O F2 => ?_
    replace F1 := F1.trans F2
    replace G := G.fr F2 (by simp [hxa]) (by simp [hla])
    refine sq_obj (val_var rfl) (val_var rfl) O S.c_Talk S.n_Talk_last_tick (Nat.le_of_ble_eq_true (by kernel_rfl)) rfl fun H1 O F2 => ?_
    replace F1 := F1.trans F2
    replace G := G.fr F2 (by simp [hxa]) (by simp [hla])
    refine sq_obj val_c (val_var rfl) O S.c_Talk S.n_Talk_ending (Nat.le_of_ble_eq_true (by kernel_rfl)) rfl fun H1 O F2 => ?_
    replace F1 := F1.trans F2
    replace G := G.fr F2 (by simp [hxa]) (by simp [hla])
    refine sq_obj val_c (val_var rfl) O S.c_Talk S.n_Talk_finished (Nat.le_of_ble_eq_true (by kernel_rfl)) rfl fun H1 O F2 => ?_
    replace F1 := F1.trans F2
    replace G := G.fr F2 (by simp [hxa]) (by simp [hla])
    refine sq_obj val_c (val_var rfl) O S.c_Talk S.n_Talk_rested (Nat.le_of_ble_eq_true (by kernel_rfl)) rfl fun H1 O F2 => ?_
    replace F1 := F1.trans F2
    replace G := G.fr F2 (by simp [hxa]) (by simp [hla])
    have KT : TalkAt K H1 a ⟨x, lk, a, a⟩ (.new0 here there first t) := by
      obtain ⟨dx, e⟩ := O
      refine ⟨.non, ⟨dx, e.trans (congrArg (fun z => some (HO.ins _ dx z)) ?_)⟩, G, rfl, rfl, rfl⟩
      kernel_rfl
    have kn : ∀ y ∈ (Nm.mk x lk a a).all a, y = a ∨ H y = none := fun y hy => by
      simp only [Nm.all, List.mem_cons, List.not_mem_nil, or_false] at hy
      rcases hy with e | e | e | e | e
      · exact .inl e
      · rw [e]; exact .inr hx0
      · rw [e]; exact .inr hl0
      · exact .inl e
      · exact .inl e
    refine st_no (ans_notN' (val_var rfl) rfl) (st_next ?_)
    exact k _ H1 KT kn F1
theorem ok_Talk (S : Says K mg) (F_is_number_talks : Fn P w K mg base 1 "is_number_talks" ["thing", "beyond"] spIsNumT) (F_need_tick : Fn P w K mg base 1 "need_tick" ["tick", "last"] spNeedTick) (F_Giver : Mr P w K mg base 2 "Giver" ["self", "first", "most", "wait"] [] (spGInit K)) (F_Talk_begin_taker : Mt P w K mg base 4 "Talk" "begin_taker" ["self", "number"] (spKBegin K)) : Mr P w K mg base 5 "Talk" ["self", "here", "there", "first", "tick", "opening"] [] (spKInit5 K) := by
  obtain ⟨fd, F⟩ := S.u_Talk_init
  obtain ⟨ds, hv, b⟩ := F.binds1 (ps := ["self", "here", "there", "first", "tick", "opening"]) 6 1 (List.cons_ne_nil _ _) rfl (fun _ _ _ _ _ _ _ us its hl hi => match us, its, hl, hi with | [_, _, _, _, _, _], [_], _, _ => ⟨_, rfl, by kernel_rfl⟩)
  have sc : FnScope ["self", "here", "there", "first", "tick", "opening"] ["self", "here", "there", "first", "tick", "opening"] (defScope s_Talk_init) := ⟨rfl, rfl, rfl, by decide +kernel, rfl, by decide +kernel, by decide +kernel⟩
  refine ⟨⟨fd, ds, F.ok sc (fun vs H Q E h => ?_) (fun cdv A outer s H vs Q E hr h => ⟨_, PSs.nox (pss_cons (ps_if (PW.pt (pw_or (pt_not (pt_val (pe_fn F_is_number_talks (hr.mono (by decide)) (pa_cons (pv 1) (pa_cons pe_int pa_nil))))) (pw_or1 (pt_not (pt_val (pe_fn F_is_number_talks (hr.mono (by decide)) (pa_cons (pv 2) (pa_cons pe_int pa_nil)))))))) (pss_one ps_never) pss_nil)
      (pss_cons (ps_if (pt_not (pt_val (pe_fn F_is_number_talks (hr.mono (by decide)) (pa_cons (pv 3) (pa_cons (pe_gi S.i_SIZE_talks) pa_nil))))) (pss_one ps_never) pss_nil)
      (pss_cons (ps_expr (pe_fn F_need_tick (hr.mono (by decide)) (pa_cons (pv 4) (pa_cons pe_int pa_nil))))
      (pss_cons (ps_fld (pv 0) (pv 1) rfl)
      (pss_cons (ps_fld (pv 0) (pv 2) rfl)
      (pss_cons (ps_fld (pv 0) (pv 3) rfl)
      (pss_cons (ps_fld (pv 0) (pe_mr F_Giver (hr.mono (by decide)) (pa_cons (pv 3) (pa_cons (pe_gi S.i_MOST_ITEMS) (pa_cons (pe_gi S.i_FIRST_WAIT) pa_nil)))) rfl)
      (pss_cons (ps_fld (pv 0) pe_non rfl)
      (pss_cons (ps_fld (pv 0) pe_non rfl)
      (pss_cons (ps_fld (pv 0) (pv 4) rfl)
      (pss_cons (ps_fld (pv 0) pe_str rfl)
      (pss_cons (ps_fld (pv 0) pe_bl rfl)
      (pss_cons (ps_fld (pv 0) pe_non rfl)
      (pss_one (ps_if (pt_cmpR op_notN (pv 5) pe_non (nomark _)) (pss_one (ps_expr (pe_mt (pv 0) F_Talk_begin_taker (hr.mono (by decide)) (pa_cons (pe_fld (pv 5) rfl) pa_nil)))) pss_nil))))))))))))))), ?_⟩), b, hv⟩, S.k_Talk, S.g_Talk⟩
  · obtain ⟨_, _, _, _, _, _, _, _, rfl, _⟩ := h
    rfl
  · obtain ⟨a, here, there, first, t, b, u, s, rfl, h1, h2, h3, O, U, hsn, k⟩ := h
    have nt : ∀ (σ : L2.St) (te tm : TE) (i n : Int), Val te σ H (.int i) → Val tm σ H (.int n) → 0 ≤ i → i < n → Ans (tNot (tB (tCall spIsNumT [] E0 (tCons te (tCons tm tNil))))) σ H false := fun σ te tm i n v1 v2 v3 v4 => ans_not (b := true) (ans_val (val_fn (arg_cons v1 (arg_cons v2 arg_nil)) fun Q q => ⟨i, n, rfl, v3, v4, q⟩))
    refine sq_no (ans_or (nt _ _ _ _ _ (val_var rfl) val_c (by omega) (by omega)) (nt _ _ _ _ _ (val_var rfl) val_c (by omega) (by omega))) ?_
    refine sq_no (nt _ _ _ _ _ (val_var rfl) val_c (by omega) (by omega)) ?_
    refine sq_dr (ex_fn (arg_cons (val_var rfl) (arg_cons val_c arg_nil)) ⟨_, _, rfl, by omega, ?_⟩)
    have O0 := O
    refine sq_obj (val_var rfl) (val_var rfl) O S.c_Talk S.n_Talk_here (Nat.le_of_ble_eq_true (by kernel_rfl)) rfl fun H1 O F1 => ?_
    refine sq_obj (val_var rfl) (val_var rfl) O S.c_Talk S.n_Talk_there (Nat.le_of_ble_eq_true (by kernel_rfl)) rfl fun H1 O F2 => ?_
    replace F1 := F1.trans F2
    refine sq_obj (val_var rfl) (val_var rfl) O S.c_Talk S.n_Talk_begun_with (Nat.le_of_ble_eq_true (by kernel_rfl)) rfl fun H1 O F2 => ?_
    replace F1 := F1.trans F2
    have O4 := O
    refine st_seq (ex_make (arg_cons (val_var rfl) (arg_cons val_c (arg_cons val_c arg_nil))) fun x dx hx hdx hd => ⟨x, first, rfl, h3, ⟨dx, upd_same⟩, fun lk H2 hlk G FG => ⟨rfl, ?_⟩⟩)
    have sm := Same.made (C := He.ga K "Giver") hx hdx hd
    have s2 : Same H1 H2 := fun b o e => FG b o (sm b o e) (by simp [ne_of_none e hx])
    have hxa : x ≠ a := O4.nn hx
    have hla : lk ≠ a := O4.nn (sm.free hlk)
    have hx0 : H x = none := (F1.free hx).resolve_right (by simp [hxa])
    have hl0 : H lk = none := (F1.free (sm.free hlk)).resolve_right (by simp [hla])
    refine sto_obj (val_var rfl) (O.same s2) S.c_Talk S.n_Talk_giver (Nat.le_of_ble_eq_true (by kernel_rfl)) rfl fun H1 O F2 => ?_
    replace F1 := (F1.trans (Fr.same s2)).trans F2
    replace G := G.fr F2 (by simp [hxa]) (by simp [hla])
    refine sq_obj val_c (val_var rfl) O S.c_Talk S.n_Talk_taker (Nat.le_of_ble_eq_true (by kernel_rfl)) rfl fun H1 O F2 => ?_
    replace F1 := F1.trans F2
    replace G := G.fr F2 (by simp [hxa]) (by simp [hla])
    refine sq_obj val_c (val_var rfl) O S.c_Talk S.n_Talk_other_first (Nat.le_of_ble_eq_true (by kernel_rfl)) rfl fun H1 O F2 => ?_
    replace F1 := F1.trans F2
    replace G := G.fr F2 (by simp [hxa]) (by simp [hla])
    refine sq_obj (val_var rfl) (val_var rfl) O S.c_Talk S.n_Talk_last_tick (Nat.le_of_ble_eq_true (by kernel_rfl)) rfl fun H1 O F2 => ?_
    replace F1 := F1.trans F2
    replace G := G.fr F2 (by simp [hxa]) (by simp [hla])
    refine sq_obj val_c (val_var rfl) O S.c_Talk S.n_Talk_ending (Nat.le_of_ble_eq_true (by kernel_rfl)) rfl fun H1 O F2 => ?_
    replace F1 := F1.trans F2
    replace G := G.fr F2 (by simp [hxa]) (by simp [hla])
    refine sq_obj val_c (val_var rfl) O S.c_Talk S.n_Talk_finished (Nat.le_of_ble_eq_true (by kernel_rfl)) rfl fun H1 O F2 => ?_
    replace F1 := F1.trans F2
    replace G := G.fr F2 (by simp [hxa]) (by simp [hla])
    refine sq_obj val_c (val_var rfl) O S.c_Talk S.n_Talk_rested (Nat.le_of_ble_eq_true (by kernel_rfl)) rfl fun H1 O F2 => ?_
    replace F1 := F1.trans F2
    replace G := G.fr F2 (by simp [hxa]) (by simp [hla])
    have KT : TalkAt K H1 a ⟨x, lk, a, a⟩ (.new0 here there first t) := by
      obtain ⟨dx, e⟩ := O
      refine ⟨.non, ⟨dx, e.trans (congrArg (fun z => some (HO.ins _ dx z)) ?_)⟩, G, rfl, rfl, rfl⟩
      kernel_rfl
    have kn : ∀ y ∈ (Nm.mk x lk a a).all a, y = a ∨ H y = none := fun y hy => by
      simp only [Nm.all, List.mem_cons, List.not_mem_nil, or_false] at hy
      rcases hy with e | e | e | e | e
      · exact .inl e
      · rw [e]; exact .inr hx0
      · rw [e]; exact .inr hl0
      · exact .inl e
      · exact .inl e
    have hba : b ≠ a := (O0.ins U.ob (by show (0 : Nat) ≠ 7; decide)).symm
    have hua : u ≠ a := (O0.tup U.da).symm
    replace U := U.fr F1 (by simp [hba]) (by simp [hua])
    refine st_yes (ans_notN' (val_var rfl) rfl) (st_dr (ex_mt (val_var rfl) O (by kernel_rfl) (arg_cons (val_obj (val_var (i := 5) rfl) U.ob S.c_Segment S.n_Segment_number sf_number) arg_nil) ⟨a, _, _, s.number, rfl, KT, hsn, rfl, fun n' H2 T2 st2 => ?_⟩))
    refine k n' H2 T2 (fun y hy => ?_) fun c o e hc => ?_
    · rcases st2.kn y hy with h | h
      · exact kn y h
      · rcases F1.free h with h | h
        · exact .inr h
        · exact .inl (by simpa using h)
    · refine st2.fr c o (F1 c o e hc) fun q => ?_
      rcases kn c q with h | h
      · exact hc (by simp [h])
      · rw [h] at e; cases e
end
end SW
end
section
set_option maxRecDepth 100000
set_option maxHeartbeats 4000000
/-! The law's draws. -/
namespace SW
open PySem PySem.Spec PyProof.Rows L2
theorem ex_lcr {σ : L2.St} {H : Hp} {te tl : TE} {g : TG} {tt : TT} {ws : List Nat} {n : Nat} {Q : VK} (ha : Val tl σ H (.int n)) (hn : n < 1000000) (Pv : Addr → Nat → Hp → Prop)
    (h0 : ∀ D, H D = none → Pv D 0 (upd H D (.lst [])))
    (hs : ∀ D i H', H D = none → i < n → Pv D i H' → g (.int (i : Nat)) (wipe σ ws) H' fun σ2 H2 => wipe σ2 ws = wipe σ ws ∧ tt σ2 H2 fun b H3 =>
      if b = true then te σ2 H3 fun y H4 => ∃ acc, H4 D = some (.lst acc) ∧ acc.length < sizeLine ∧ Pv D (i + 1) (upd H4 D (.lst (acc ++ [y]))) else Pv D (i + 1) H3)
    (hd : ∀ D H', H D = none → Pv D n H' → Q (.ref D) H') : tLc (iRng1 (tCons tl tNil)) g tt te ws σ H Q :=
  ha _ ⟨n, rfl, by omega, by omega, fun D hD => lc_it walk_range (Pv D) (h0 D hD) (fun _ _ _ _ => trivial) (fun i x H1 H' hi p y => by
    obtain ⟨rfl, rfl⟩ := y
    rw [Int.toNat_natCast] at hi
    show g (.int (0 + (i : Nat))) _ _ _
    rw [show (0 : Int) + (i : Nat) = (i : Nat) by omega]
    exact hs D i H' hD hi p) fun H' p => hd D H' hD (by rwa [Int.toNat_natCast] at p)⟩
def D3 (H : Hp) (b : Addr) : Prop := ∃ x y z : Int, H b = some (.lst [.int x, .int y, .int z])
def spMixed : Sp := fun vs H Q _ => ∃ c k : Int, vs = [.int c, .int k] ∧ ∀ r : Int, 0 ≤ r → Q (.int r) H
def spDraw (K : PySem.W.Frag) : Sp := fun vs H Q _ => ∃ (a k : Nat) (ns : List Int) (c : Int), vs = [.ref a, .int k, .int c] ∧ SqL K H a (ns.map V.int) ∧ ∀ b H', H b = none → Same H H' → D3 H' b → Q (.ref b) H'
def spNext : Sp := fun vs H Q _ => ∃ b m : Nat, vs = [.ref b, .int m] ∧ D3 H b ∧ 1 ≤ m ∧ m < 1073741824 ∧ ∀ (n : Nat) (H' : Hp), n < m → Fr [b] H H' → D3 H' b → Q (.int n) H'
def spFirst : Sp := fun vs H Q _ => ∃ b : Addr, vs = [.ref b] ∧ D3 H b ∧ ∀ (n : Nat) (H' : Hp), n < 4294967296 → Fr [b] H H' → D3 H' b → Q (.int n) H'
def spBytes : Sp := fun vs H Q _ => ∃ b m : Nat, vs = [.ref b, .int m] ∧ D3 H b ∧ m ≤ 100 ∧ ∀ (d : Addr) (ns : List Nat) (H' : Hp), ns.length = m → (∀ x ∈ ns, x < 256) → Fr [b] H H' → D3 H' b → H' d = some (.tup (ns.map nV)) → Q (.ref d) H'
section
variable {K : PySem.W.Frag} {σ : L2.St} {H : Hp} {ta tb te to ti : TE} {p : Addr} {xs : List V} {i : Int} {v : V} {u : TS} {D : Ends} {j : Nat}
theorem val_ix (ha : Val ta σ H (.ref p)) (hb : Val tb σ H (.int i)) (h : H p = some (.lst xs)) (e : atI xs i = some v) : Val (tOp (rIxL K) ta tb) σ H v := fun Q q => ha _ (hb _ ⟨p, xs, i, v, rfl, rfl, SqL.of h, e, q⟩)
theorem val_ixQ (ha : Val ta σ H (.ref p)) (hb : Val tb σ H (.int i)) (h : SqL K H p xs) (e : atI xs i = some v) : Val (tOp (rIxL K) ta tb) σ H v := fun Q q => ha _ (hb _ ⟨p, xs, i, v, rfl, rfl, h, e, q⟩)
theorem val_ixT (ha : Val ta σ H (.ref p)) (hb : Val tb σ H (.int i)) (h : H p = some (.tup xs)) (e : atI xs i = some v) : Val (tOp (rIxT K) ta tb) σ H v := fun Q q => ha _ (hb _ ⟨p, xs, i, v, rfl, rfl, SqT.of h, e, q⟩)
/-- l[i] = .. -/
theorem st_set1 (hv : Val te σ H v) (ho : Val to σ H (.ref p)) (hi : Val ti σ H (.int i)) (h : H p = some (.lst xs)) (e : ixN xs.length i = some j) (q : D.nx σ (upd H p (.lst (xs.set j v)))) : tAsg te (gSub to ti rSetL) D σ H := hv _ (ho _ (hi _ ⟨p, xs, i, j, rfl, rfl, h, e, q⟩))
theorem sq_set1 (hv : Val te σ H v) (ho : Val to σ H (.ref p)) (hi : Val ti σ H (.int i)) (h : H p = some (.lst xs)) (e : ixN xs.length i = some j) (q : u D σ (upd H p (.lst (xs.set j v)))) : tSeq (tAsg te (gSub to ti rSetL)) u D σ H := hv _ (ho _ (hi _ ⟨p, xs, i, j, rfl, rfl, h, e, q⟩))
theorem val_neg {i : Int} (ha : Val ta σ H (.int i)) : Val (tUn (rU fun i => .int (-i)) ta) σ H (.int (-i)) := fun Q q => ha _ ⟨i, rfl, q⟩
/-- an if whose test may go either way -/
theorem sq_any {c : TT} {t1 : TS} (h : ∀ R : Bool → Hp → Prop, (∀ b H', Same H H' → R b H') → c σ H R) (q1 : ∀ H', Same H H' → t1 { D with nx := u D } σ H') (q2 : ∀ H', Same H H' → u D σ H') : tSeq (tIfS c t1 tNext) u D σ H := h _ fun b H' s => by
  cases b with
  | true => exact iteT (q1 H' s)
  | false => exact iteF (q2 H' s)
theorem val_mul {i j : Int} (ha : Val ta σ H (.int i)) (hb : Val tb σ H (.int j)) (h : CMul i j) : Val (tOp (rI CMul fun i j => .int (i * j)) ta tb) σ H (.int (i * j)) := val_rI ha hb h
theorem val_mod {i j : Int} (ha : Val ta σ H (.int i)) (hb : Val tb σ H (.int j)) (h : j ≠ 0) : Val (tOp (rI (fun _ j => j ≠ 0) fun i j => .int (i.fmod j)) ta tb) σ H (.int (i.fmod j)) := val_rI ha hb h
end
theorem fmod_rng {i j : Int} (h : 0 < j) : 0 ≤ i.fmod j ∧ i.fmod j < j := ⟨Int.fmod_nonneg_of_pos i h, Int.fmod_lt_of_pos i h⟩
abbrev tMx : TE := tCall spMixed [] E0 (tCons (tVar 3) (tCons (tOp (rI0 fun i j => .int (i + j)) (tC (.int 300)) (tVar 1)) tNil))
theorem draw_end {σ : L2.St} {H : Hp} {D : Ends} {z n c : Int} (h1 : σ[1]? = some (some (.int n))) (h2 : σ[2]? = some (some (.int c))) (h3 : σ[3]? = some (some (.int z))) (q : ∀ (x y z : Int) (r : Addr), H r = none → D.rt (.ref r) (upd H r (.lst [.int x, .int y, .int z]))) :
    tSeq (tIfS (tTest (tOp rEq (tOp (rI (fun _ j => j ≠ 0) fun i j => .int (i.fmod j)) (tVar 3) (tC (.int 2))) (tC (.int 0)))) (tRet (tLst (tCons (tOp (rI CDivN fun i j => .int (i.fdiv j)) (tVar 3) (tC (.int 2))) (tCons (tUn (rU fun i => .int (-i)) (tC (.int 1))) (tCons tMx tNil))))) tNext)
      (tRet (tLst (tCons (tC (.int 0)) (tCons (tVar 2) (tCons tMx tNil))))) D σ H := by
  have mx : ∀ R : List V → Hp → Prop, (∀ r : Int, R [.int r] H) → tCons tMx tNil σ H R := fun R hR => ex_ce (ex_fn (arg_cons (val_var h3) (arg_cons (val_add val_c (val_var h1)) arg_nil)) ⟨z, 300 + n, rfl, fun r _ => ta_nil (hR r)⟩)
  refine sq_if (ans_eqS (val_mod (val_var h3) val_c (by decide)) val_c rfl rfl) (fun _ => ?_) (fun _ => ?_)
  · exact st_rt (ex_c1 (val_rI (val_var h3) val_c ⟨by decide, by decide⟩) (ex_c1 (val_neg val_c) (mx _ fun r => ⟨by show 3 ≤ sizeLine; decide, fun b hb => q _ _ _ b hb⟩)))
  · exact st_rt (ex_c1 val_c (ex_c1 (val_var h2) (mx _ fun r => ⟨by show 3 ≤ sizeLine; decide, fun b hb => q _ _ _ b hb⟩)))
section
variable {P : Program} {w : World} {K : PySem.W.Frag} {mg : Str → Option Value} {base : Heap}
theorem ok_L_mixed (S : Says K mg)  : Fn P w K mg base 1 "_law_mixed" ["_law_cell", "_law_k"] spMixed := by
  obtain ⟨fd, F⟩ := S.u_L_mixed
  have sc : FnScope ["_law_cell", "_law_k", "_law_mix"] ["_law_cell", "_law_k"] (defScope s_L_mixed) := ⟨rfl, rfl, rfl, by decide +kernel, rfl, by decide +kernel, by decide +kernel⟩
  refine ⟨⟨fd, F.ok sc (fun vs H Q E h => ?_) (fun cdv A outer s H vs Q E hr h => ⟨_, PSs.nox (pss_cons (ps_set (i := 2) sc.nd rfl (Or.inl rfl) (pe_op op_modN (pe_op op_mul (pe_op op_add (pe_op op_add (pv 0) (pe_op op_mul pe_int (pv 1))) pe_int) pe_int) pe_int))
      (pss_one (ps_ret (pe_op op_modN (pe_op op_add (pe_op op_mul (pv 2) (pv 2)) (pe_op op_mul pe_int (pv 2))) pe_int)))), ?_⟩), F.bindsN (fun _ _ _ _ _ _ us hl => match us, hl with | [_, _], _ => rfl)⟩, F.kp, S.g__law_mixed⟩
  · obtain ⟨_, _, rfl, _⟩ := h
    rfl
  · obtain ⟨c, n, rfl, k⟩ := h
    refine sq_av (val_mod (val_mul (val_add (val_add (val_var rfl) (val_mul val_c (val_var rfl) (.inl (by decide +kernel)))) val_c) val_c (.inr (by decide +kernel))) val_c (by decide)) ?_
    generalize hm : ((c + 7919 * n + 11) * 48271).fmod 2147483647 = m
    have hr := fmod_rng (i := (c + 7919 * n + 11) * 48271) (j := 2147483647) (by decide)
    rw [hm] at hr
    refine st_ret (val_mod (val_add (val_mul (val_var rfl) (val_var rfl) (.inl ⟨by omega, by omega⟩)) (val_mul val_c (val_var rfl) (.inl (by decide +kernel)))) val_c (by decide)) (k _ (fmod_rng (by decide)).1)
theorem ok_L_draw (S : Says K mg) (F_L_mixed : Fn P w K mg base 1 "_law_mixed" ["_law_cell", "_law_k"] spMixed) : Fn P w K mg base 2 "_law_draw" ["_law_script", "_law_k", "_law_count"] (spDraw K) := by
  obtain ⟨fd, F⟩ := S.u_L_draw
  have sc : FnScope ["_law_script", "_law_k", "_law_count", "_law_cell"] ["_law_script", "_law_k", "_law_count"] (defScope s_L_draw) := ⟨rfl, rfl, rfl, by decide +kernel, rfl, by decide +kernel, by decide +kernel⟩
  refine ⟨⟨fd, F.ok sc (fun vs H Q E h => ?_) (fun cdv A outer s H vs Q E hr h => ⟨_, PSs.nox (pss_cons (ps_set (i := 3) sc.nd rfl (Or.inl rfl) pe_int)
      (pss_cons (ps_if (pt_cmpR op_lt (pv 1) (pe_callB call_len rfl S.f_len boot_len (pa_cons (pv 0) pa_nil)) (nomark _)) (pss_one (ps_set (i := 3) sc.nd rfl (Or.inl rfl) (pe_ix ix_list (pv 0) (pv 1) (fun _ _ => rfl)))) pss_nil)
      (pss_cons (ps_if (pt_cmpR op_eq (pe_op op_modN (pv 3) pe_int) pe_int (nomark _)) (pss_one (ps_ret (pe_lst (pa_cons (pe_op op_fdivN (pv 3) pe_int) (pa_cons (pe_un un_neg pe_int) (pa_cons (pe_fn F_L_mixed (hr.mono (by decide)) (pa_cons (pv 3) (pa_cons (pe_op op_add pe_int (pv 1)) pa_nil))) pa_nil)))))) pss_nil)
      (pss_one (ps_ret (pe_lst (pa_cons pe_int (pa_cons (pv 2) (pa_cons (pe_fn F_L_mixed (hr.mono (by decide)) (pa_cons (pv 3) (pa_cons (pe_op op_add pe_int (pv 1)) pa_nil))) pa_nil))))))))), ?_⟩), F.bindsN (fun _ _ _ _ _ _ us hl => match us, hl with | [_, _, _], _ => rfl)⟩, F.kp, S.g__law_draw⟩
  · obtain ⟨_, _, _, _, rfl, _⟩ := h
    rfl
  · obtain ⟨a, n, ns, c, rfl, hns, k⟩ := h
    refine sq_av val_c ?_
    have hl := val_len_lst (K := K) (σ := (L2.start ["_law_script", "_law_k", "_law_count", "_law_cell"] [V.ref a, V.int n, V.int c]).set 3 (some (.int 0))) (val_var (i := 0) rfl) hns
    rw [List.length_map] at hl
    have e3 : ∀ (x y z : Int) (r : Addr), H r = none → Q (.ref r) (upd H r (.lst [.int x, .int y, .int z])) := fun x y z r hr => k r _ hr (Same.new hr) ⟨x, y, z, upd_same⟩
    by_cases cc : n < ns.length
    · have hat : atI (ns.map V.int) (n : Int) = some (.int ns[n]) := by
        unfold atI ixN
        rw [List.length_map, if_pos (by omega), if_pos (by omega)]
        show (ns.map V.int)[((n : Int)).toNat]? = _
        rw [Int.toNat_natCast, List.getElem?_map, List.getElem?_eq_getElem cc]
        rfl
      refine sq_yes (ans_rI0 (val_var rfl) hl (by exact congrArg V.bl (decide_eq_true (by first | omega | (dsimp only; omega))))) (st_av (val_ixQ (val_var rfl) (val_var rfl) hns hat) ?_)
      exact draw_end rfl rfl rfl e3
    · refine sq_no (ans_rI0 (val_var rfl) hl (by exact congrArg V.bl (decide_eq_false (by first | omega | (dsimp only; omega))))) ?_
      exact draw_end rfl rfl rfl e3
theorem ok_L_next (S : Says K mg) (F_L_mixed : Fn P w K mg base 1 "_law_mixed" ["_law_cell", "_law_k"] spMixed) : Fn P w K mg base 2 "_law_next" ["_law_draw_here", "_law_size"] spNext := by
  obtain ⟨fd, F⟩ := S.u_L_next
  have sc : FnScope ["_law_draw_here", "_law_size", "_law_digit"] ["_law_draw_here", "_law_size"] (defScope s_L_next) := ⟨rfl, rfl, rfl, by decide +kernel, rfl, by decide +kernel, by decide +kernel⟩
  refine ⟨⟨fd, F.ok sc (fun vs H Q E h => ?_) (fun cdv A outer s H vs Q E hr h => ⟨_, PSs.nox (pss_cons (ps_if (PW.pt (pw_and (pt_cmpR op_lt (pe_ix ix_list (pv 0) pe_int (fun _ _ => rfl)) pe_int (nomark _)) (pw_and1 (pt_cmpR op_notIn_seq (pe_ix ix_list (pv 0) pe_int (fun _ _ => rfl)) (pe_tup (pa_cons pe_int (pa_cons (pe_un un_neg pe_int) pa_nil))) rfl)))) (pss_cons (ps_set (i := 2) sc.nd rfl (Or.inl rfl) (pe_op op_modN (pe_ix ix_list (pv 0) pe_int (fun _ _ => rfl)) (pv 1)))
      (pss_cons (ps_asg (pe_op op_fdivN (pe_ix ix_list (pv 0) pe_int (fun _ _ => rfl)) (pv 1)) (pg_sub (pv 0) pe_int set_list))
      (pss_one (ps_ret (pv 2))))) pss_nil)
      (pss_cons (ps_asg (pe_op op_add (pe_callB (call_max2 rfl) rfl S.f_max boot_max (pa_cons pe_int (pa_cons (pe_ix ix_list (pv 0) pe_int (fun _ _ => rfl)) pa_nil))) pe_int) (pg_sub (pv 0) pe_int set_list))
      (pss_one (ps_ret (pe_op op_modN (pe_op op_fdivN (pe_fn F_L_mixed (hr.mono (by decide)) (pa_cons (pe_ix ix_list (pv 0) pe_int (fun _ _ => rfl)) (pa_cons (pe_ix ix_list (pv 0) pe_int (fun _ _ => rfl)) pa_nil))) pe_int) (pv 1)))))), ?_⟩), F.bindsN (fun _ _ _ _ _ _ us hl => match us, hl with | [_, _], _ => rfl)⟩, F.kp, S.g__law_next⟩
  · obtain ⟨_, _, rfl, _⟩ := h
    rfl
  · obtain ⟨b, m, rfl, ⟨x, y, z, hd⟩, hm1, hm2, k⟩ := h
    have vx : ∀ (σ : L2.St) (H' : Hp), σ[0]? = some (some (.ref b)) → H' b = some (.lst [V.int x, V.int y, V.int z]) → Val (tOp (rIxL K) (tVar 0) (tC (.int 0))) σ H' (.int x) := fun σ H' h0 hd => val_ix (val_var h0) val_c hd rfl
    have vy : ∀ (σ : L2.St) (H' : Hp), σ[0]? = some (some (.ref b)) → H' b = some (.lst [V.int x, V.int y, V.int z]) → Val (tOp (rIxL K) (tVar 0) (tC (.int 1))) σ H' (.int y) := fun σ H' h0 hd => val_ix (val_var h0) val_c hd rfl
    have mp : (0 : Int) < m := by omega
    -- behind the test: either way
    have two : ∀ H1, Same H H1 → tSeq (tAsg (tOp (rI0 fun i j => .int (i + j)) (tCB (fun xs H Q => ∃ i j, xs = [.int i, .int j] ∧ Q (.int (if j > i then j else i)) H) (tCons (tC (.int 0)) (tCons (tOp (rIxL K) (tVar 0) (tC (.int 1))) tNil))) (tC (.int 1))) (gSub (tVar 0) (tC (.int 1)) rSetL))
        (tRet (tOp (rI (fun _ j => j ≠ 0) fun i j => .int (i.fmod j)) (tOp (rI CDivN fun i j => .int (i.fdiv j)) (tCall spMixed [] E0 (tCons (tOp (rIxL K) (tVar 0) (tC (.int 2))) (tCons (tOp (rIxL K) (tVar 0) (tC (.int 1))) tNil))) (tC (.int 7))) (tVar 1))) { nx := fun _ H' => Q .non H', rt := Q } (L2.start ["_law_draw_here", "_law_size", "_law_digit"] [V.ref b, V.int m]) H1 := fun H1 s1 => by
      have hd1 := s1 _ _ hd
      refine sq_set1 (val_add (val_max val_c (vy _ _ rfl hd1)) val_c) (val_var rfl) val_c hd1 rfl ?_
      refine st_rt (ex_ope (ex_ope (ex_fn (arg_cons (val_ix (val_var rfl) val_c upd_same rfl) (arg_cons (val_ix (val_var rfl) val_c upd_same rfl) arg_nil)) ⟨_, _, rfl, fun r hr => val_c _ ⟨r, 7, rfl, rfl, ⟨by decide, by decide⟩, (val_var rfl) _ ⟨_, m, rfl, rfl, by omega, ?_⟩⟩⟩)))
      have hf := fmod_rng (i := r.fdiv 7) mp
      show Q (.int ((r.fdiv 7).fmod m)) _
      generalize (r.fdiv 7).fmod m = q at *
      obtain ⟨qn, rfl⟩ := Int.eq_ofNat_of_zero_le hf.1
      exact k qn _ (by omega) ((Fr.same s1).trans Fr.up) ⟨_, _, _, upd_same⟩
    have one : ∀ H1, Same H H1 → tSeq (tAsg (tOp (rI (fun _ j => j ≠ 0) fun i j => .int (i.fmod j)) (tOp (rIxL K) (tVar 0) (tC (.int 0))) (tVar 1)) (gName 2)) (tSeq (tAsg (tOp (rI CDivN fun i j => .int (i.fdiv j)) (tOp (rIxL K) (tVar 0) (tC (.int 0))) (tVar 1)) (gSub (tVar 0) (tC (.int 0)) rSetL)) (tRet (tVar 2))) { nx := fun _ H' => Q .non H', rt := Q } (L2.start ["_law_draw_here", "_law_size", "_law_digit"] [V.ref b, V.int m]) H1 := fun H1 s1 => by
      have hd1 := s1 _ _ hd
      have hf := fmod_rng (i := x) mp
      refine sq_av (val_mod (vx _ _ rfl hd1) (val_var rfl) (by omega)) ?_
      generalize x.fmod m = q at *
      obtain ⟨qn, rfl⟩ := Int.eq_ofNat_of_zero_le hf.1
      refine sq_set1 (val_rI (vx _ _ rfl hd1) (val_var rfl) ⟨by omega, by omega⟩) (val_var rfl) val_c hd1 rfl ?_
      exact st_ret (val_var rfl) (k qn _ (by omega) ((Fr.same s1).trans Fr.up) ⟨_, _, _, upd_same⟩)
    refine sq_any (fun R hR => ?_) one two
    by_cases hy : y < 0
    · refine ans_rI0 (vy _ _ rfl hd) val_c (by exact congrArg V.bl (decide_eq_true (by first | omega | (dsimp only; omega)))) _ (iteT (vx _ _ rfl hd _ (ex_c1 val_c (ex_c1 (val_neg val_c) (ta_nil ⟨by show 2 ≤ sizeLine; decide, fun p hp => ⟨p, _, rfl, Or.inr (SqT.of upd_same), rfl, rfl, _, rfl, hR _ _ (Same.new hp)⟩⟩)))))
    · exact ans_rI0 (vy _ _ rfl hd) val_c (by exact congrArg V.bl (decide_eq_false (by first | omega | (dsimp only; omega)))) _ (iteF (hR _ _ (Same.refl H)))
theorem ok_L_first (S : Says K mg) (F_L_next : Fn P w K mg base 2 "_law_next" ["_law_draw_here", "_law_size"] spNext) : Fn P w K mg base 3 "_law_first" ["_law_draw_here"] spFirst := by
  obtain ⟨fd, F⟩ := S.u_L_first
  have sc : FnScope ["_law_draw_here", "_law_kind"] ["_law_draw_here"] (defScope s_L_first) := ⟨rfl, rfl, rfl, by decide +kernel, rfl, by decide +kernel, by decide +kernel⟩
  refine ⟨⟨fd, F.ok sc (fun vs H Q E h => ?_) (fun cdv A outer s H vs Q E hr h => ⟨_, PSs.nox (pss_cons (ps_set (i := 1) sc.nd rfl (Or.inl rfl) (pe_fn F_L_next (hr.mono (by decide)) (pa_cons (pv 0) (pa_cons pe_int pa_nil))))
      (pss_cons (ps_if (pt_cmpR op_eq (pv 1) pe_int (nomark _)) (pss_one (ps_ret (pe_fn F_L_next (hr.mono (by decide)) (pa_cons (pv 0) (pa_cons pe_int pa_nil))))) pss_nil)
      (pss_cons (ps_if (pt_cmpR op_eq (pv 1) pe_int (nomark _)) (pss_one (ps_ret (pe_op op_sub (pe_op op_sub (pe_op op_pow pe_int pe_int) pe_int) (pe_fn F_L_next (hr.mono (by decide)) (pa_cons (pv 0) (pa_cons pe_int pa_nil)))))) pss_nil)
      (pss_one (ps_ret (pe_op op_add (pe_op op_mul (pe_fn F_L_next (hr.mono (by decide)) (pa_cons (pv 0) (pa_cons pe_int pa_nil))) pe_int) (pe_fn F_L_next (hr.mono (by decide)) (pa_cons (pv 0) (pa_cons pe_int pa_nil))))))))), ?_⟩), F.bindsN (fun _ _ _ _ _ _ us hl => match us, hl with | [_], _ => rfl)⟩, F.kp, S.g__law_first⟩
  · obtain ⟨_, rfl, _⟩ := h
    rfl
  · obtain ⟨b, rfl, hd, k⟩ := h
    refine sq_as (ex_fn (arg_cons (val_var rfl) (arg_cons (val_c (v := .int (4 : Nat))) arg_nil)) ⟨b, 4, rfl, hd, by decide, by decide, fun n H1 hn F1 hd1 => ?_⟩)
    refine sq_if (b := decide (n = 0)) (ans_eqS (val_var rfl) val_c rfl ?_) (fun _ => ?_) (fun _ => ?_)
    · exact decide_eq_decide.mpr ⟨fun e => by have := V.int.inj e; omega, fun e => by rw [e]; rfl⟩
    · exact st_rt (ex_fn (arg_cons (val_var rfl) (arg_cons (val_c (v := .int (100 : Nat))) arg_nil)) ⟨b, 100, rfl, hd1, by decide, by decide, fun n2 H2 hn2 F2 hd2 => k n2 H2 (by omega) (F1.trans F2) hd2⟩)
    · refine sq_if (b := decide (n = 1)) (ans_eqS (val_var rfl) val_c rfl ?_) (fun _ => ?_) (fun _ => ?_)
      · exact decide_eq_decide.mpr ⟨fun e => by have := V.int.inj e; omega, fun e => by rw [e]; rfl⟩
      · refine st_rt (ex_op1 (val_sub (val_rI (i := 2) (j := 32) val_c val_c ⟨by decide, by decide, by decide +kernel⟩) val_c) (ex_fn (arg_cons (val_var rfl) (arg_cons (val_c (v := .int (100 : Nat))) arg_nil)) ⟨b, 100, rfl, hd1, by decide, by decide, fun n2 H2 hn2 F2 hd2 => ⟨_, _, rfl, rfl, ?_⟩⟩))
        show Q (.int ((2 : Int) ^ (32 : Int).toNat - 1 - (n2 : Nat))) _
        rw [show (2 : Int) ^ (32 : Int).toNat - 1 - (n2 : Nat) = ((4294967295 - n2 : Nat) : Int) by rw [show (2 : Int) ^ (32 : Int).toNat = 4294967296 by decide +kernel]; omega]
        exact k _ H2 (by omega) (F1.trans F2) hd2
      · refine st_rt (ex_ope (ex_ope (ex_fn (arg_cons (val_var rfl) (arg_cons (val_c (v := .int (65536 : Nat))) arg_nil)) ⟨b, 65536, rfl, hd1, by decide, by decide, fun n2 H2 hn2 F2 hd2 => val_c _ ⟨_, _, rfl, rfl, .inr (by decide +kernel), ?_⟩⟩)))
        refine ex_fn (arg_cons (val_var rfl) (arg_cons (val_c (v := .int (65536 : Nat))) arg_nil)) ⟨b, 65536, rfl, hd2, by decide, by decide, fun n3 H3 hn3 F3 hd3 => ⟨_, _, rfl, rfl, ?_⟩⟩
        show Q (.int (((n2 : Nat) : Int) * 65536 + (n3 : Nat))) _
        rw [show ((n2 : Nat) : Int) * 65536 + (n3 : Nat) = ((n2 * 65536 + n3 : Nat) : Int) by omega]
        exact k _ H3 (by omega) ((F1.trans F2).trans F3) hd3
theorem ok_L_bytes (S : Says K mg) (F_L_next : Fn P w K mg base 2 "_law_next" ["_law_draw_here", "_law_size"] spNext) : Fn P w K mg base 3 "_law_bytes" ["_law_draw_here", "_law_many"] spBytes := by
  obtain ⟨fd, F⟩ := S.u_L_bytes
  have sc : FnScope ["_law_draw_here", "_law_many", "_law_base", "_law_by", "_law_k"] ["_law_draw_here", "_law_many"] (defScope s_L_bytes) := ⟨rfl, rfl, rfl, by decide +kernel, rfl, by decide +kernel, by decide +kernel⟩
  refine ⟨⟨fd, F.ok sc (fun vs H Q E h => ?_) (fun cdv A outer s H vs Q E hr h => ⟨_, PSs.nox (pss_cons (ps_set (i := 2) sc.nd rfl (Or.inr rfl) (pe_fn F_L_next (hr.mono (by decide)) (pa_cons (pv 0) (pa_cons pe_int pa_nil))))
      (pss_cons (ps_set (i := 3) sc.nd rfl (Or.inr rfl) (pe_op op_add pe_int (pe_op op_mul pe_int (pe_fn F_L_next (hr.mono (by decide)) (pa_cons (pv 0) (pa_cons pe_int pa_nil))))))
      (pss_one (ps_ret (pe_callTy call_tuple_of rfl S.f_tuple boot_tuple (pa_cons (pe_lc (own := [("_law_k", 4)]) (g := gName 4) rfl sc.nd (pi_range1 rfl S.f_range (pa_cons (pv 1) pa_nil)) (blkOk_by (own := [("_law_k", 4)]) (N := ["_law_draw_here", "_law_many", "_law_base", "_law_by", "_law_k"]) (sc := defScope s_L_bytes) (by decide +kernel)) (fun _ _ _ _ _ => pg_name (i := 4) sc.nd rfl (Or.inl rfl)) (fun _ _ _ _ _ => pts_nil) (fun _ _ _ _ _ => (pe_op op_modN (pe_op op_add (pv 2) (pe_op op_mul (pv 3) (pv 4))) pe_int))) pa_nil)))))), ?_⟩), F.bindsN (fun _ _ _ _ _ _ us hl => match us, hl with | [_, _], _ => rfl)⟩, F.kp, S.g__law_bytes⟩
  · obtain ⟨_, _, rfl, _⟩ := h
    rfl
  · obtain ⟨b, m, rfl, hd, hm, k⟩ := h
    refine sq_as (ex_fn (arg_cons (val_var rfl) (arg_cons (val_c (v := .int (256 : Nat))) arg_nil)) ⟨b, 256, rfl, hd, by decide, by decide, fun n H1 hn F1 hd1 => ?_⟩)
    refine sq_as (ex_op1 val_c (ex_op1 val_c (ex_fn (arg_cons (val_var rfl) (arg_cons (val_c (v := .int (8 : Nat))) arg_nil)) ⟨b, 8, rfl, hd1, by decide, by decide, fun n2 H2 hn2 F2 hd2 => ⟨_, _, rfl, rfl, .inl (by decide +kernel), ⟨_, _, rfl, rfl, ?_⟩⟩⟩)))
    show tRet _ _ (((L2.start ["_law_draw_here", "_law_many", "_law_base", "_law_by", "_law_k"] [V.ref b, V.int m]).set 2 (some (.int n))).set 3 (some (.int (1 + 2 * (n2 : Nat))))) H2
    let f : Nat → Nat := fun i => ((n + (1 + 2 * n2) * i) % 256)
    refine st_rt (ex_cbe (ex_ce (ex_lcr (val_var rfl) (by omega) (fun D i H' => Same H2 H' ∧ H' D = some (.lst (((List.range i).map f).map nV))) (fun D hD => ⟨Same.new hD, upd_same⟩) ?_ ?_)))
    · rintro D i H' hD hi ⟨p1, p2⟩
      refine ⟨rfl, lc_yes (val_mod (val_add (val_var rfl) (val_mul (val_var rfl) (val_var rfl) (.inl ⟨by omega, by omega⟩))) val_c (by decide) _ ⟨_, p2, by rw [List.length_map, List.length_map, List.length_range, sizeLine_eq]; omega, fun b o e => by rw [upd_ne (ne_of_none e hD)]; exact p1 b o e, ?_⟩)⟩
      rw [upd_same, List.range_succ, List.map_append, List.map_append]
      have e : (((n : Nat) : Int) + (1 + 2 * (n2 : Nat)) * (i : Nat)).fmod 256 = ((f i : Nat) : Int) := by
        rw [Int.fmod_eq_emod_of_nonneg _ (by decide)]
        show _ = (((n + (1 + 2 * n2) * i) % 256 : Nat) : Int)
        rw [Int.natCast_emod, Int.natCast_add, Int.natCast_mul, Int.natCast_add, Int.natCast_mul]
        rfl
      rw [e]
      rfl
    · rintro D H3 hD ⟨p1, p2⟩
      refine ta_nil ⟨D, _, rfl, .inl ⟨SqL.of p2, fun d hd3 => k d ((List.range m).map f) _ (by rw [List.length_map, List.length_range]) (fun x hx => ?_) ((F1.trans F2).trans (Fr.same (p1.trans (Same.new hd3)))) ?_ upd_same⟩⟩
      · obtain ⟨i, _, rfl⟩ := List.mem_map.mp hx
        exact Nat.mod_lt _ (by decide)
      · obtain ⟨x, y, z, e⟩ := hd2
        exact ⟨x, y, z, (p1.trans (Same.new hd3)) _ _ e⟩
end
end SW
end
section
set_option maxRecDepth 100000
set_option maxHeartbeats 4000000
/-! Lists of objects against empty lists. -/
namespace SW
open PySem PySem.Spec PyProof.Rows L2
def rEqR (K : PySem.W.Frag) : R2 := fun x y H Q => ∃ a b xs, x = .ref a ∧ y = .ref b ∧ SqL K H a xs ∧ SqL K H b [] ∧ Q (.bl (decide (xs = []))) H
theorem rc_empty {X : Cx} {A : Around} {pins : List (Addr × Obj)} {σ : L2.St} {H : Hp} {s : Shared} {a b : Addr} {xs : List V} (I : Inv X pins σ H s) (h1 : SqL X.K H a xs) (h2 : SqL X.K H b []) (hu : A.units < cLine) : SeqAt.RcAt A s (.ref a) (.ref b) (decide (xs = [])) := by
  obtain ⟨i1, r1, p1, z1⟩ := I.list h1
  obtain ⟨i2, r2, p2, z2⟩ := I.list h2
  cases r2
  cases r1 with
  | nil => exact SeqAt.RcAt.lists (e := fun _ => true) p1.isList p2.isList rfl hu (fun j h1 => absurd h1 (Nat.not_lt_zero _))
  | cons r rr => exact SeqAt.RcAt.lists_lengths p1.isList p2.isList (by simp) hu
theorem op_eqR {X : Cx} {k : Nat} (hr : Room k X.A) : OpR X (compareOp .Eq) (rEqR X.K) := by
  intro pins s σ H x y v u Q I rx ry h
  obtain ⟨a, b, xs, rfl, rfl, h1, h2, q⟩ := h
  cases rx
  cases ry
  exact rc_empty I h1 h2 hr.units0 X.prog X.w X.xe _ ⟨.bl _, H, I, rfl, q⟩
def rNeR (K : PySem.W.Frag) : R2 := fun x y H Q => ∃ a b r0 r1 e0 e1 xs ys, x = .ref a ∧ y = .ref b ∧ SqL K H a [.ref r0, .ref r1] ∧ SqL K H b [.ref e0, .ref e1] ∧ SqL K H r0 xs ∧ SqL K H r1 ys ∧ SqL K H e0 [] ∧ SqL K H e1 [] ∧ r0 ≠ e0 ∧ r1 ≠ e1 ∧ Q (.bl (!(decide (xs = []) && decide (ys = [])))) H
theorem op_neR {X : Cx} {k : Nat} (hr : Room k X.A) : OpR X (compareOp .NotEq) (rNeR X.K) := by
  intro pins s σ H x y v u Q I rx ry h
  obtain ⟨a, b, r0, r1, e0, e1, xs, ys, rfl, rfl, ha, hb, h0, h1, g0, g1, n0, n1, q⟩ := h
  cases rx
  cases ry
  obtain ⟨i1, v1, p1, z1⟩ := I.list ha
  obtain ⟨i2, v2, p2, z2⟩ := I.list hb
  obtain ⟨x0, x1, rfl, rx0, rx1⟩ := vals2 v1
  obtain ⟨y0, y1, rfl, ry0, ry1⟩ := vals2 v2
  cases rx0
  cases rx1
  cases ry0
  cases ry1
  have hu : X.A.in1.units < cLine := by have := hr.units; show X.A.units + 1 < cLine; omega
  refine SeqAt.RcNeAt.lists (e := fun j => if j = 0 then decide (xs = []) else decide (ys = [])) p1.isList p2.isList rfl hr.units0 (fun j h1' h2' => ?_) X.prog X.w X.xe _ ⟨.bl _, H, I, rfl, ?_⟩
  · match j, h1' with
    | 0, _ => exact SeqAt.EqAt.of_refs n0 (rc_empty I h0 g0 hu)
    | 1, _ => exact SeqAt.EqAt.of_refs n1 (rc_empty I h1 g1 hu)
    | j + 2, h => exact absurd h (by simp)
  · have e : (!(List.range #[Value.ref r0, Value.ref r1].size).all fun j => if j = 0 then decide (xs = []) else decide (ys = [])) = !(decide (xs = []) && decide (ys = [])) := by
      show (!((decide (xs = [])) && ((decide (ys = [])) && true))) = _
      rw [Bool.and_true]
    rw [← e] at q
    exact q
end SW
end
section
set_option maxRecDepth 100000
set_option maxHeartbeats 4000000
/-! A pair turned around: p[::-1]. -/
namespace SW
open PySem PySem.Spec PyProof.Rows L2
section
variable {prog : Program} {w : World} {A : Around} {E : Value → Shared → Prop} {s : Shared}
theorem rev_applied {sl : Addr} {vl vu vs : Value} {Q : Int × Int × Nat → Shared → Prop} (hs : s.heap.IsSliceOf sl vl vu vs) (pl : IsPart vl none) (pu : IsPart vu none) (ps : IsPart vs (some (-1)))
    (h : Q (1, -1, 2) s) : wpAny (model prog w) A (Builtin.Slice.sliceApplied (.ref sl) (pure ((2 : Nat) : Int))) Q E s := by
  obtain ⟨os, hos, hcs, hds⟩ := id hs
  unfold Builtin.Slice.sliceApplied Builtin.Slice.sliceFields
  refine wpAny_bind (wpAny_bind (wpAny_field hos hds (x := vl) rfl (wpAny_bind (wpAny_field hos hds (x := vu) rfl (wpAny_bind (wpAny_field hos hds (x := vs) rfl (wpAny_pure ?_)))))))
  refine wpAny_bind (HT.slicePart_ ps ?_)
  show wpAny _ _ (if ((-1 : Int) == 0) = true then _ else _) _ _ s
  rw [if_neg (by decide)]
  refine wpAny_bind (HT.slicePart_ pl (wpAny_bind (HT.slicePart_ pu (wpAny_bind (wpAny_pure ?_)))))
  exact wpAny_pure h
theorem getItem_pair_rev {t sl : Addr} {u v vl vu vs : Value} {Q : Value → Shared → Prop} (ht : IsTup s.heap t #[u, v]) (hs : s.heap.IsSliceOf sl vl vu vs) (pl : IsPart vl none) (pu : IsPart vu none) (ps : IsPart vs (some (-1)))
    (h : Q (.ref s.heap.objs.size) { s with heap := s.heap.push { cls := .type "tuple", data := .seq #[v, u] } }) : wpAny (model prog w) A (getItem (.ref t) (.ref sl)) Q E s := by
  obtain ⟨os, hos, hcs, hds⟩ := id hs
  have hTs : s.TypeIs (.ref sl) "slice" := ⟨os, hos, hcs⟩
  have htake : sizeOk (.seq #[v, u]) := by show 2 ≤ sizeLine; decide
  unfold getItem
  try with_reducible refine wpAny_holding ?_
  first | refine wpAny_bind (wpAny_pure ?_) | skip
  refine wpAny_bind (wpAny_sequenceKey ht.typeIs (by decide) ?_)
  refine wpAny_bind (wpAny_callSpecial?_slot (name := Str.ofString "__getitem__") ht.typeIs PyProof.Rows.slot_tuple_getitem
    (wpAny_call_entry PyProof.Rows.slot_tuple_getitem ht.typeIs entry_tuple_getitem ?_ (args_tuple_getitem _ _)))
  show wpAny _ _ (Builtin.Tuple.tupleItemsOf (.ref t) >>= _) _ _ s
  refine wpAny_bind (tupleItemsOf_ ht ?_)
  refine wpAny_bind (wpAny_typeOf hTs ?_)
  rw [if_pos (by decide)]
  refine wpAny_bind (rev_applied hs pl pu ps ?_)
  show wpAny _ _ (if ((1 : Int) == 0 && (-1 : Int) == 1 && (2 : Nat) == 2) = true then _ else _) _ _ s
  rw [if_neg (by decide)]
  show wpAny _ _ (Builtin.Tuple.tupleExact #[v, u] >>= _) _ _ s
  first
    | exact wpAny_bind (m := Builtin.Tuple.tupleExact _) (wpAny_newObj_type (wpAny_pure ⟨_, rfl, wpAny_pure h⟩) htake)
    | exact wpAny_bind (m := Builtin.Tuple.tupleExact _) (wpAny_newObj_type (wpAny_bind (wpAny_pure (wpAny_pure ⟨_, rfl, wpAny_pure h⟩))) htake)
    | exact wpAny_bind (wpAny_bind (m := Builtin.Tuple.tupleExact _) (wpAny_newObj_type (wpAny_pure (wpAny_pure ⟨_, rfl, wpAny_pure h⟩)) htake))
    | exact wpAny_bind (wpAny_bind (m := Builtin.Tuple.tupleExact _) (wpAny_newObj_type (wpAny_pure ⟨_, rfl, wpAny_pure h⟩) htake))
end
def tRevT (K : PySem.W.Frag) (te : TE) : TE := fun σ H Q => te σ H fun x H1 => ∃ a y z, x = .ref a ∧ SqT K H1 a [y, z] ∧ ∀ p, H1 p = none → Q (.ref p) (upd H1 p (.tup [z, y]))
theorem pe_revT {X : Cx} {e : Expr} {te : TE} {k : Nat} {p1 p2 p3 pos : Pos} (he : PE X e te) : PE X (.Subscript e (.Slice none none (some (.UnaryOp .USub (.Constant (.int 1) k p1) p2)) p3) pos) (tRevT X.K te) := by
  refine ⟨fun pins s σ H Q I h => ?_⟩
  refine Subscript_ (thn (he.run pins s σ H _ I h) fun v s1 ⟨x, H1, I1, r1, q1⟩ => ?_)
  obtain ⟨a, y, z, ex, hx, q⟩ := q1
  subst ex
  cases r1
  have ho : PO X (some (.UnaryOp .USub (.Constant (.int 1) k p1) p2)) (tPart (tUn (rU fun i => .int (-i)) (tC (.int 1)))) := po_some (pe_un un_neg pe_int)
  refine wpAny_Slice (thn (po_none.run pins s1 σ H1 (fun o H2 => o = none ∧ H2 = H1) I1 ⟨rfl, rfl⟩) fun vl s2 ⟨l, H2, I2, pl, el, e2⟩ => ?_)
  subst el e2
  refine thn (po_none.run pins s2 σ H2 (fun o H3 => o = none ∧ H3 = H2) I2 ⟨rfl, rfl⟩) fun vu s3 ⟨u, H3, I3, pu, eu, e3⟩ => ?_
  subst eu e3
  refine thn (ho.run pins s3 σ H3 (fun o H4 => o = some (-1) ∧ H4 = H3) I3 ⟨1, rfl, -1, rfl, rfl, rfl⟩) fun vs s4 ⟨o, H4, I4, ps, eo, e4⟩ => ?_
  subst eo e4
  have I5 : Inv X pins σ H4 { s4 with heap := s4.heap.push { cls := .type "slice", data := .fields #[vl, vu, vs] } } := I4.kept (t' := s4.toks) fun b ob q => Heap.get?_push_of_some _ q
  obtain ⟨its, r, ht, hz⟩ := I5.tuple hx
  obtain ⟨u0, v0, rfl, r0, r1⟩ := vals2 r
  show wpAny (model X.prog X.w) X.A (subscriptTail e (.Slice none none (some (.UnaryOp .USub (.Constant (.int 1) k p1) p2)) p3) (.ref a) (.ref s4.heap.objs.size)) (EP X pins σ Q) X.xe { s4 with heap := s4.heap.push { cls := .type "slice", data := .fields #[vl, vu, vs] } }
  refine tail_any (ops := [.ref a, .ref s4.heap.objs.size]) (IsTup.typeIs ht) (PyProof.Rows.slot_tuple_getitem.lookup) ?_ (by with_unfolding_all rfl)
  refine getItem_pair_rev (u := u0) (v := v0) ht (Heap.IsSliceOf.new _ vl vu vs) pl pu ps ?_
  refine ⟨.ref _, _, I5.laid (t' := s4.toks) (o := .tup [z, y]) (fun b ob q => Heap.get?_push_of_some _ q) (Nat.le_refl _) ?_, rfl, q _ (I5.hok.fresh (Nat.le_refl _))⟩
  exact ⟨by show 2 ≤ sizeLine; decide, [v0, u0], .cons r1 (.cons r0 .nil), IsTup.new _ _⟩
end SW
end
section
set_option maxRecDepth 100000
set_option maxHeartbeats 4000000
/-! How the law's world stands. -/
namespace SW
open PySem PySem.Spec PyProof.Rows L2
structure Wa where
  aw : Addr
  ap : Addr
  af : Addr
  lr : Addr
  lw : Addr
  lh : Addr
  lt : Addr
  lo : Addr
  r : Bool → Addr
  w : Bool → Addr
  h : Bool → Addr
  a : Bool → Addr
  n : Bool → Nm
def wd (A : Wa) (now : Nat) (cuts : Bool) : List (Key × V) := [(.inr "ports", .ref A.ap), (.inr "firsts", .ref A.af), (.inr "roads", .ref A.lr), (.inr "wrote", .ref A.lw), (.inr "has", .ref A.lh), (.inr "now", .int now), (.inr "talks", .ref A.lt), (.inr "told", .ref A.lo), (.inr "cuts", .bl cuts)]
section
variable {A : Wa} {now : Nat} {cuts : Bool}
theorem wd_ports : valV (wd A now cuts) (.inr "ports") = some (.ref A.ap) := by kernel_rfl
theorem wd_firsts : valV (wd A now cuts) (.inr "firsts") = some (.ref A.af) := by kernel_rfl
theorem wd_roads : valV (wd A now cuts) (.inr "roads") = some (.ref A.lr) := by kernel_rfl
theorem wd_wrote : valV (wd A now cuts) (.inr "wrote") = some (.ref A.lw) := by kernel_rfl
theorem wd_has : valV (wd A now cuts) (.inr "has") = some (.ref A.lh) := by kernel_rfl
theorem wd_now : valV (wd A now cuts) (.inr "now") = some (.int now) := by kernel_rfl
theorem wd_talks : valV (wd A now cuts) (.inr "talks") = some (.ref A.lt) := by kernel_rfl
theorem wd_told : valV (wd A now cuts) (.inr "told") = some (.ref A.lo) := by kernel_rfl
theorem wd_cuts : valV (wd A now cuts) (.inr "cuts") = some (.bl cuts) := by kernel_rfl
theorem wp_now (m : Nat) : putK (wd A now cuts) (.inr "now") (.int m) = wd A m cuts := by kernel_rfl
theorem wp_cuts (b : Bool) : putK (wd A now cuts) (.inr "cuts") (.bl b) = wd A now b := by kernel_rfl
end
/-- a talk's place in the list -/
def TalkO (K : PySem.W.Frag) (H : Hp) (a : Addr) (n : Nm) (v : V) : Option Tl → Prop
  | none => v = .non
  | some tl => v = .ref a ∧ TalkAt K H a n tl
/-- the world's lists -/
def Wa.ls (A : Wa) : List Addr := [A.aw, A.lr, A.lw, A.lh, A.lt, A.lo, A.r false, A.r true]
structure WorldAt (K : PySem.W.Frag) (H : Hp) (A : Wa) (w : Wd) : Prop where
  dic : H A.aw = some (.dK (wd A w.now w.cuts))
  po : H A.ap = some (.tup [.int (w.port false), .int (w.port true)])
  fi : H A.af = some (.tup [.int (w.first false), .int (w.first true)])
  ro : H A.lr = some (.lst [.ref (A.r false), .ref (A.r true)])
  rd : ∀ x, OutAt K H (A.r x) (w.road x)
  wr : H A.lw = some (.lst [.ref (A.w false), .ref (A.w true)])
  wt : ∀ x, H (A.w x) = some (.tup ((w.wrote x).map nV))
  hs : H A.lh = some (.lst [.ref (A.h false), .ref (A.h true)])
  ht : ∀ x, H (A.h x) = some (.tup ((w.has x).map nV))
  ts : ∃ v0 v1, H A.lt = some (.lst [v0, v1]) ∧ TalkO K H (A.a false) (A.n false) v0 (w.talk false) ∧ TalkO K H (A.a true) (A.n true) v1 (w.talk true)
  to : H A.lo = some (.lst [.bl (w.told false), .bl (w.told true)])
  nd : A.ls.Nodup
  dj : ∀ x, (w.talk x).isSome = true → ∀ b ∈ (A.n x).all (A.a x), b ∉ A.ls
  d2 : (w.talk false).isSome = true → (w.talk true).isSome = true → ∀ b ∈ (A.n false).all (A.a false), b ∉ (A.n true).all (A.a true)
end SW
end
section
set_option maxRecDepth 100000
set_option maxHeartbeats 4000000
/-! The law: what is told is sent. -/
namespace SW
open PySem PySem.Spec PyProof.Rows L2
def eI (x : Bool) : Int := if x = true then 1 else 0
theorem eI_not (x : Bool) : 1 - eI x = eI (!x) := by cases x <;> rfl
theorem at_pair {α : Type} (f : Bool → α) (x : Bool) : atI [f false, f true] (eI x) = some (f x) := by cases x <;> rfl
theorem ix_pair (v0 v1 : V) (x : Bool) : ixN [v0, v1].length (eI x) = some (if x = true then 1 else 0) := by cases x <;> rfl
theorem set_pair {α : Type} (f : Bool → α) (x : Bool) (v : α) : [f false, f true].set (if x = true then 1 else 0) v = [put f x v false, put f x v true] := by cases x <;> rfl
def Wa.tk (A : Wa) (w : Wd) (x : Bool) : List Addr := if (w.talk x).isSome = true then (A.n x).all (A.a x) else []
def Wa.mut (A : Wa) (w : Wd) : List Addr := A.ls ++ (A.tk w false ++ A.tk w true)
theorem Wa.mut_ls {A : Wa} {w : Wd} {b : Addr} (h : b ∈ A.ls) : b ∈ A.mut w := List.mem_append_left _ h
theorem Wa.mut_tk {A : Wa} {w : Wd} {b : Addr} (x : Bool) (h : b ∈ A.tk w x) : b ∈ A.mut w := by
  unfold Wa.mut
  cases x
  · exact List.mem_append_right _ (List.mem_append_left _ h)
  · exact List.mem_append_right _ (List.mem_append_right _ h)
theorem TalkO.fr {K : PySem.W.Frag} {H H' : Hp} {F : List Addr} {a : Addr} {n : Nm} {v : V} {o : Option Tl} (h : TalkO K H a n v o) (f : Fr F H H') (hn : o.isSome = true → ∀ b ∈ n.all a, b ∉ F) (nt : ∀ b ∈ F, ∀ xs, H b ≠ some (.tup xs)) : TalkO K H' a n v o := by
  cases o with
  | none => exact h
  | some tl =>
    obtain ⟨e, tv, T⟩ := h
    have hn := hn rfl
    unfold Nm.all at hn
    simp only [List.mem_cons, List.not_mem_nil, or_false, forall_eq_or_imp, forall_eq] at hn
    refine ⟨e, tv, T.ob.fr f hn.1, T.gv.fr f hn.2.1 hn.2.2.1, ?_⟩
    exact T.tk.fr f (fun _ => ⟨hn.2.2.2.1, hn.2.2.2.2⟩) nt
theorem OutAt.fr {K : PySem.W.Frag} {H H' : Hp} {F : List Addr} {r : Addr} {l : List Sg} (h : OutAt K H r l) (f : Fr F H H') (hr : r ∉ F) (nt : ∀ b ∈ F, ∀ xs, H b ≠ some (.tup xs)) (ns : ∀ b ∈ F, ∀ s u, ¬ ObjAt (He.ga K "Segment") H b (sf s u)) : OutAt K H' r l := by
  obtain ⟨xs, h1, h2⟩ := h
  exact ⟨xs, f _ _ h1 hr, h2.mono fun x s q => q.fr f nt ns⟩
/-- a list changed that is no part of it, or its lists of roads -/
theorem WorldAt.lists {K : PySem.W.Frag} {H H' : Hp} {A : Wa} {w : Wd} {F : List Addr} (W : WorldAt K H A w) (f : Fr F H H') (nm : ∀ b ∈ F, b ∉ A.mut w ∨ b = A.lr) (nl : ∀ b ∈ F, ∃ xs, H b = some (.lst xs)) (hro : H' A.lr = some (.lst [.ref (A.r false), .ref (A.r true)])) : WorldAt K H' A w := by
  have nt : ∀ b ∈ F, ∀ xs, H b ≠ some (.tup xs) := fun b hb xs e => by
    obtain ⟨ys, h⟩ := nl b hb
    rw [h] at e; cases e
  have ns : ∀ b ∈ F, ∀ s u, ¬ ObjAt (He.ga K "Segment") H b (sf s u) := fun b hb s u q => by
    obtain ⟨ys, h⟩ := nl b hb
    exact q.lst h rfl
  have tp : ∀ (b : Addr) (xs : List V), H b = some (.tup xs) → b ∉ F := fun b xs e q => nt b q xs e
  have nd := W.nd
  unfold Wa.ls at nd
  have inl : ∀ b ∈ A.ls, b ≠ A.lr → b ∉ F := fun b hb hne q => (nm b q).elim (fun h => h (Wa.mut_ls hb)) (fun h => hne h)
  simp only [List.nodup_cons, List.mem_cons, List.not_mem_nil, or_false, not_or] at nd
  have nr := nd.2.1
  obtain ⟨v0, v1, t0, t1, t2⟩ := W.ts
  have tk : ∀ x, (w.talk x).isSome = true → ∀ b ∈ (A.n x).all (A.a x), b ∉ F := fun x hx b hb q => (nm b q).elim (fun h => h (Wa.mut_tk x (by unfold Wa.tk; rw [if_pos hx]; exact hb))) (fun h => W.dj x hx b hb (by rw [h]; simp [Wa.ls]))
  refine ⟨f _ _ W.dic (inl _ (by simp [Wa.ls]) (by intro h; exact nd.1.1 h)), f _ _ W.po (tp _ _ W.po), f _ _ W.fi (tp _ _ W.fi), hro, fun x => (W.rd x).fr f (inl _ (by cases x <;> simp [Wa.ls]) (by cases x; exact fun h => nr.2.2.2.2.1 h.symm; exact fun h => nr.2.2.2.2.2 h.symm)) nt ns,
    f _ _ W.wr (inl _ (by simp [Wa.ls]) (fun h => nr.1 h.symm)), fun x => f _ _ (W.wt x) (tp _ _ (W.wt x)), f _ _ W.hs (inl _ (by simp [Wa.ls]) (fun h => nr.2.1 h.symm)), fun x => f _ _ (W.ht x) (tp _ _ (W.ht x)),
    ⟨v0, v1, f _ _ t0 (inl _ (by simp [Wa.ls]) (fun h => nr.2.2.1 h.symm)), t1.fr f (tk false) nt, t2.fr f (tk true) nt⟩, f _ _ W.to (inl _ (by simp [Wa.ls]) (fun h => nr.2.2.2.1 h.symm)), W.nd, W.dj, W.d2⟩
theorem TalkO.same {K : PySem.W.Frag} {H H' : Hp} {a : Addr} {n : Nm} {v : V} {o : Option Tl} (h : TalkO K H a n v o) (f : Same H H') : TalkO K H' a n v o := by
  cases o with
  | none => exact h
  | some tl => exact ⟨h.1, h.2.same f⟩
theorem OutAt.same {K : PySem.W.Frag} {H H' : Hp} {r : Addr} {l : List Sg} (h : OutAt K H r l) (f : Same H H') : OutAt K H' r l := by
  obtain ⟨xs, h1, h2⟩ := h
  exact ⟨xs, f _ _ h1, h2.mono fun x s q => q.same f⟩
theorem WorldAt.same {K : PySem.W.Frag} {H H' : Hp} {A : Wa} {w : Wd} (W : WorldAt K H A w) (f : Same H H') : WorldAt K H' A w := by
  obtain ⟨v0, v1, t0, t1, t2⟩ := W.ts
  exact ⟨f _ _ W.dic, f _ _ W.po, f _ _ W.fi, f _ _ W.ro, fun x => (W.rd x).same f, f _ _ W.wr, fun x => f _ _ (W.wt x), f _ _ W.hs, fun x => f _ _ (W.ht x), ⟨v0, v1, f _ _ t0, t1.same f, t2.same f⟩, f _ _ W.to, W.nd, W.dj, W.d2⟩
/-- a road's list is another one -/
theorem WorldAt.road {K : PySem.W.Frag} {H : Hp} {A : Wa} {w : Wd} {p : Addr} {l : List Sg} (W : WorldAt K H A w) (y : Bool) (hp : p ∉ A.mut w) (ho : OutAt K H p l) :
    WorldAt K (upd H A.lr (.lst [.ref (put A.r y p false), .ref (put A.r y p true)])) { A with r := put A.r y p } { w with road := put w.road y l } := by
  have nd := W.nd
  have hpl : p ∉ A.ls := fun h => hp (Wa.mut_ls h)
  have f : Fr [A.lr] H (upd H A.lr (.lst [.ref (put A.r y p false), .ref (put A.r y p true)])) := Fr.up
  have nt : ∀ b ∈ [A.lr], ∀ xs, H b ≠ some (.tup xs) := fun b hb xs e => by rw [List.mem_singleton.mp hb, W.ro] at e; cases e
  have ns : ∀ b ∈ [A.lr], ∀ s u, ¬ ObjAt (He.ga K "Segment") H b (sf s u) := fun b hb s u q => by rw [List.mem_singleton.mp hb] at q; exact q.lst W.ro rfl
  have tp : ∀ (b : Addr) (xs : List V), H b = some (.tup xs) → b ∉ [A.lr] := fun b xs e q => nt b q xs e
  unfold Wa.ls at nd hpl
  simp only [List.nodup_cons, List.mem_cons, List.not_mem_nil, or_false, not_or] at nd hpl
  have nr := nd.2.1
  obtain ⟨v0, v1, t0, t1, t2⟩ := W.ts
  have tk : ∀ x, (w.talk x).isSome = true → ∀ b ∈ (A.n x).all (A.a x), b ∉ [A.lr] := fun x hx b hb q => W.dj x hx b hb (by rw [List.mem_singleton.mp q]; simp [Wa.ls])
  have hrx : ∀ x, A.r x ≠ A.lr := fun x => by cases x; exact fun h => nr.2.2.2.2.1 h.symm; exact fun h => nr.2.2.2.2.2 h.symm
  refine ⟨f _ _ W.dic (by simpa using fun h => nd.1.1 h), f _ _ W.po (tp _ _ W.po), f _ _ W.fi (tp _ _ W.fi), upd_same, fun x => ?_, f _ _ W.wr (by simpa using fun h => nr.1 h.symm), fun x => f _ _ (W.wt x) (tp _ _ (W.wt x)), f _ _ W.hs (by simpa using fun h => nr.2.1 h.symm), fun x => f _ _ (W.ht x) (tp _ _ (W.ht x)),
    ⟨v0, v1, f _ _ t0 (by simpa using fun h => nr.2.2.1 h.symm), t1.fr f (tk false) nt, t2.fr f (tk true) nt⟩, f _ _ W.to (by simpa using fun h => nr.2.2.2.1 h.symm), ?_, ?_, W.d2⟩
  · show OutAt K _ (put A.r y p x) (put w.road y l x)
    by_cases c : x = y
    · subst c
      rw [put_same, put_same]
      exact ho.fr f (by simpa using hpl.2.1) nt ns
    · rw [put_ne _ _ c, put_ne _ _ c]
      exact (W.rd x).fr f (by simpa using hrx x) nt ns
  · unfold Wa.ls
    simp only [List.nodup_cons, List.mem_cons, List.not_mem_nil, or_false, not_or]
    cases y
    · rw [put_same, show put A.r false p true = A.r true from put_ne _ _ (by decide)]
      exact ⟨⟨nd.1.1, nd.1.2.1, nd.1.2.2.1, nd.1.2.2.2.1, nd.1.2.2.2.2.1, fun h => hpl.1 h.symm, nd.1.2.2.2.2.2.2⟩, ⟨nr.1, nr.2.1, nr.2.2.1, nr.2.2.2.1, fun h => hpl.2.1 h.symm, nr.2.2.2.2.2⟩, ⟨nd.2.2.1.1, nd.2.2.1.2.1, nd.2.2.1.2.2.1, fun h => hpl.2.2.1 h.symm, nd.2.2.1.2.2.2.2⟩,
        ⟨nd.2.2.2.1.1, nd.2.2.2.1.2.1, fun h => hpl.2.2.2.1 h.symm, nd.2.2.2.1.2.2.2⟩, ⟨nd.2.2.2.2.1.1, fun h => hpl.2.2.2.2.1 h.symm, nd.2.2.2.2.1.2.2⟩, ⟨fun h => hpl.2.2.2.2.2.1 h.symm, nd.2.2.2.2.2.1.2⟩, hpl.2.2.2.2.2.2.2, by simp⟩
    · rw [put_same, show put A.r true p false = A.r false from put_ne _ _ (by decide)]
      exact ⟨⟨nd.1.1, nd.1.2.1, nd.1.2.2.1, nd.1.2.2.2.1, nd.1.2.2.2.2.1, nd.1.2.2.2.2.2.1, fun h => hpl.1 h.symm⟩, ⟨nr.1, nr.2.1, nr.2.2.1, nr.2.2.2.1, nr.2.2.2.2.1, fun h => hpl.2.1 h.symm⟩, ⟨nd.2.2.1.1, nd.2.2.1.2.1, nd.2.2.1.2.2.1, nd.2.2.1.2.2.2.1, fun h => hpl.2.2.1 h.symm⟩,
        ⟨nd.2.2.2.1.1, nd.2.2.2.1.2.1, nd.2.2.2.1.2.2.1, fun h => hpl.2.2.2.1 h.symm⟩, ⟨nd.2.2.2.2.1.1, nd.2.2.2.2.1.2.1, fun h => hpl.2.2.2.2.1 h.symm⟩, ⟨nd.2.2.2.2.2.1.1, fun h => hpl.2.2.2.2.2.1 h.symm⟩, fun h => hpl.2.2.2.2.2.2.1 h.symm, by simp⟩
  · intro x hx b hb
    have h1 := W.dj x hx b hb
    have h2 : b ≠ p := fun e => hp (Wa.mut_tk x (by unfold Wa.tk; rw [if_pos hx, ← e]; exact hb))
    unfold Wa.ls at h1 ⊢
    simp only [List.mem_cons, List.not_mem_nil, or_false, not_or] at h1 ⊢
    cases y
    · rw [put_same, show put A.r false p true = A.r true from put_ne _ _ (by decide)]
      exact ⟨h1.1, h1.2.1, h1.2.2.1, h1.2.2.2.1, h1.2.2.2.2.1, h1.2.2.2.2.2.1, h2, h1.2.2.2.2.2.2.2⟩
    · rw [put_same, show put A.r true p false = A.r false from put_ne _ _ (by decide)]
      exact ⟨h1.1, h1.2.1, h1.2.2.1, h1.2.2.2.1, h1.2.2.2.2.1, h1.2.2.2.2.2.1, h1.2.2.2.2.2.2.1, h2⟩
end SW
end
section
set_option maxRecDepth 100000
set_option maxHeartbeats 4000000
/-! The law: sent. -/
namespace SW
open PySem PySem.Spec PyProof.Rows L2
theorem WorldAt.nfree {K : PySem.W.Frag} {H : Hp} {A : Wa} {w : Wd} {p : Addr} (W : WorldAt K H A w) (hp : H p = none) : p ∉ A.mut w := by
  obtain ⟨v0, v1, t0, t1, t2⟩ := W.ts
  obtain ⟨x0, h0, _⟩ := W.rd false
  obtain ⟨x1, h1, _⟩ := W.rd true
  intro q
  unfold Wa.mut at q
  rcases List.mem_append.mp q with q | q
  · unfold Wa.ls at q
    simp only [List.mem_cons, List.not_mem_nil, or_false] at q
    rcases q with q | q | q | q | q | q | q | q <;> rw [q] at hp
    · rw [W.dic] at hp; cases hp
    · rw [W.ro] at hp; cases hp
    · rw [W.wr] at hp; cases hp
    · rw [W.hs] at hp; cases hp
    · rw [t0] at hp; cases hp
    · rw [W.to] at hp; cases hp
    · rw [h0] at hp; cases hp
    · rw [h1] at hp; cases hp
  · have tk : ∀ x v, TalkO K H (A.a x) (A.n x) v (w.talk x) → p ∉ A.tk w x := fun x v t q => by
      unfold Wa.tk at q
      cases e : w.talk x with
      | none => rw [e] at q; simp at q
      | some tl =>
        rw [e] at q t
        obtain ⟨_, tv, T⟩ := t
        exact T.nfree hp (by simpa using q)
    rcases List.mem_append.mp q with q | q
    · exact tk false v0 t1 q
    · exact tk true v1 t2 q
theorem Wa.mut_road {A : Wa} {w : Wd} {y : Bool} {p b : Addr} {l : List Sg} (h : b ∈ ({ A with r := put A.r y p } : Wa).mut { w with road := put w.road y l }) : b ∈ A.mut w ∨ b = p := by
  unfold Wa.mut at h ⊢
  rcases List.mem_append.mp h with h | h
  · unfold Wa.ls at h
    simp only [List.mem_cons, List.not_mem_nil, or_false] at h
    rcases h with h | h | h | h | h | h | h | h
    · exact .inl (List.mem_append_left _ (by simp [Wa.ls, h]))
    · exact .inl (List.mem_append_left _ (by simp [Wa.ls, h]))
    · exact .inl (List.mem_append_left _ (by simp [Wa.ls, h]))
    · exact .inl (List.mem_append_left _ (by simp [Wa.ls, h]))
    · exact .inl (List.mem_append_left _ (by simp [Wa.ls, h]))
    · exact .inl (List.mem_append_left _ (by simp [Wa.ls, h]))
    · cases y
      · exact .inr (by rw [h, put_same])
      · exact .inl (List.mem_append_left _ (by rw [h, put_ne _ _ (by decide)]; simp [Wa.ls]))
    · cases y
      · exact .inl (List.mem_append_left _ (by rw [h, put_ne _ _ (by decide)]; simp [Wa.ls]))
      · exact .inr (by rw [h, put_same])
  · exact .inl (List.mem_append_right _ h)
def spSent (K : PySem.W.Frag) : Sp := fun vs H Q _ => ∃ (A : Wa) (w : Wd) (e : Bool) (r : Addr) (out : List Sg), vs = [.ref A.aw, .int (eI e), .ref r] ∧ WorldAt K H A w ∧ OutAt K H r out ∧ r ∉ A.mut w ∧ (w.road (!e)).length ≤ 4000000 ∧ out.length ≤ 4000000 ∧
  ∀ p H', H p = none → WorldAt K H' { A with r := put A.r (!e) p } { w with road := put w.road (!e) (w.road (!e) ++ out) } → Fr [A.lr, r] H H' → Q .non H'
section
variable {P : Program} {w : World} {K : PySem.W.Frag} {mg : Str → Option Value} {base : Heap}
theorem ok_L_sent (S : Says K mg)  : Fn P w K mg base 1 "_law_sent" ["_law_world", "_law_end", "_law_segments"] (spSent K) := by
  obtain ⟨fd, F⟩ := S.u_L_sent
  have sc : FnScope ["_law_world", "_law_end", "_law_segments"] ["_law_world", "_law_end", "_law_segments"] (defScope s_L_sent) := ⟨rfl, rfl, rfl, by decide +kernel, rfl, by decide +kernel, by decide +kernel⟩
  refine ⟨⟨fd, F.ok sc (fun vs H Q E h => ?_) (fun cdv A outer s H vs Q E hr h => ⟨_, PSs.nox (pss_cons (ps_asg (pe_op op_cat (pe_ix ix_list (pe_dget (hu_of hr) (pv 0) pe_str (fun _ _ => rfl)) (pe_op op_sub pe_int (pv 1)) (fun _ _ => rfl)) (pv 2)) (pg_sub (pe_dget (hu_of hr) (pv 0) pe_str (fun _ _ => rfl)) (pe_op op_sub pe_int (pv 1)) set_list))
      (pss_one (ps_expr (pe_bm PySem.F.plainAttrs_list PySem.F.slot_list_append PySem.F.type_list_append mt_append (pv 2) (pa_cons pe_non pa_nil))))), ?_⟩), F.bindsN (fun _ _ _ _ _ _ us hl => match us, hl with | [_, _, _], _ => rfl)⟩, F.kp, S.g__law_sent⟩
  · obtain ⟨_, _, _, _, _, rfl, _⟩ := h
    rfl
  · obtain ⟨A, w, e, r, out, rfl, W, ⟨zs, hz, oz⟩, hr, hl1, hl2, k⟩ := h
    obtain ⟨xs, hx, ox⟩ := W.rd (!e)
    have hv : ∀ (H' : Hp), H' A.aw = some (.dK (wd A w.now w.cuts)) → Val (tDGet (tVar 0) (tC (.str "roads"))) (L2.start ["_law_world", "_law_end", "_law_segments"] [V.ref A.aw, V.int (eI e), V.ref r]) H' (.ref A.lr) := fun H' hd => val_dget (k := .inr "roads") (val_var rfl) val_c hd rfl wd_roads
    have hi : ∀ (H' : Hp), Val (tOp (rI0 fun i j => .int (i - j)) (tC (.int 1)) (tVar 1)) (L2.start ["_law_world", "_law_end", "_law_segments"] [V.ref A.aw, V.int (eI e), V.ref r]) H' (.int (eI (!e))) := fun H' => val_to (val_sub val_c (val_var rfl)) (congrArg V.int (eI_not e))
    have hat : atI [V.ref (A.r false), V.ref (A.r true)] (eI (!e)) = some (.ref (A.r (!e))) := at_pair (fun x => V.ref (A.r x)) (!e)
    have l1 : xs.length = (w.road (!e)).length := ox.1
    have l2 : zs.length = out.length := oz.1
    refine st_seq (ex_op1 (val_ix (hv H W.dic) (hi H) W.ro hat) (ex_v (val_var rfl) ⟨_, _, xs, zs, rfl, rfl, hx, hz, by rw [sizeLine_eq]; omega, fun p hp => ?_⟩))
    have s1 := Same.new (o := .lst (xs ++ zs)) hp
    have W1 := W.same s1
    have hpm : p ∉ A.mut w := W.nfree hp
    have O1 : OutAt K (upd H p (.lst (xs ++ zs))) p (w.road (!e) ++ out) := ⟨_, upd_same, (ox.mono fun x s q => q.same s1).append (oz.mono fun x s q => q.same s1)⟩
    have W2 := W1.road (!e) hpm O1
    refine hv _ W1.dic _ (hi _ _ ⟨A.lr, _, _, _, rfl, rfl, W1.ro, ix_pair _ _ (!e), ?_⟩)
    rw [show [V.ref (A.r false), V.ref (A.r true)].set (if (!e) = true then 1 else 0) (.ref p) = [.ref (put A.r (!e) p false), .ref (put A.r (!e) p true)] by cases e <;> rfl]
    have hrl : r ≠ A.lr := fun h => hr (Wa.mut_ls (by rw [h]; simp [Wa.ls]))
    have hrp : r ≠ p := ne_of_none hz hp
    have hz2 : (upd (upd H p (.lst (xs ++ zs))) A.lr (.lst [.ref (put A.r (!e) p false), .ref (put A.r (!e) p true)])) r = some (.lst zs) := by rw [upd_ne hrl]; exact upd_at hz hp
    refine st_dr (ex_bm (val_var rfl) (ty_lst hz2) (arg_cons val_c arg_nil) ⟨r, zs, .non, rfl, rfl, hz2, by rw [sizeLine_eq]; omega, ?_⟩)
    refine k p _ hp (W2.lists Fr.up (fun b hb => .inl ?_) (fun b hb => ⟨zs, by rw [List.mem_singleton.mp hb]; exact hz2⟩) ?_) ?_
    · rw [List.mem_singleton.mp hb]
      intro q
      rcases Wa.mut_road q with q | q
      · exact hr q
      · exact hrp q
    · rw [upd_ne hrl.symm]; exact upd_same
    · exact ((Fr.same (F := []) s1).on (F := [A.lr, r]) (Fr.up (a := A.lr))).on (F := [A.lr, r]) Fr.up
end
end SW
end
section
set_option maxRecDepth 100000
set_option maxHeartbeats 4000000
/-! The world: a talk changed. -/
namespace SW
open PySem PySem.Spec PyProof.Rows L2
theorem TalkAt.nt {K : PySem.W.Frag} {H : Hp} {a : Addr} {n : Nm} {tl : Tl} (h : TalkAt K H a n tl) : (∀ b ∈ n.all a, ∀ xs, H b ≠ some (.tup xs)) ∧ ∀ b ∈ n.all a, ∀ s u, ¬ ObjAt (He.ga K "Segment") H b (sf s u) := by
  obtain ⟨tv, T⟩ := h
  exact ⟨T.nt, T.nsg⟩
/-- what stands and is no part of the talk stands -/
theorem WorldAt.talk {K : PySem.W.Frag} {H H' : Hp} {A : Wa} {w : Wd} {x : Bool} {n' : Nm} {tl tl' : Tl} (W : WorldAt K H A w) (e : w.talk x = some tl) (st : Stp H H' (A.a x) (A.n x) n') (T : TalkAt K H' (A.a x) n' tl') :
    WorldAt K H' { A with n := put A.n x n' } { w with talk := put w.talk x (some tl') } := by
  have hs : (w.talk x).isSome = true := by rw [e]; rfl
  obtain ⟨v0, v1, t0, t1, t2⟩ := W.ts
  have tO : ∀ y, ∃ v, TalkO K H (A.a y) (A.n y) v (w.talk y) := fun y => by cases y; exact ⟨v0, t1⟩; exact ⟨v1, t2⟩
  have T0 : TalkAt K H (A.a x) (A.n x) tl := by
    obtain ⟨v, t⟩ := tO x
    rw [e] at t
    exact t.2
  have nt := T0.nt.1
  have ns := T0.nt.2
  have f := st.fr
  have inl : ∀ b ∈ A.ls, b ∉ (A.n x).all (A.a x) := fun b hb q => W.dj x hs b q hb
  have tp : ∀ (b : Addr) (xs : List V), H b = some (.tup xs) → b ∉ (A.n x).all (A.a x) := fun b xs e q => nt b q xs e
  have oth : ∀ b, (w.talk (!x)).isSome = true → b ∈ (A.n (!x)).all (A.a (!x)) → b ∉ (A.n x).all (A.a x) := fun b ho hb q => by
    cases x
    · exact W.d2 hs ho b q hb
    · exact W.d2 ho hs b hb q
  have tk : ∀ y v, TalkO K H (A.a y) (A.n y) v (w.talk y) → TalkO K H' (A.a y) (put A.n x n' y) v (put w.talk x (some tl') y) := fun y v t => by
    by_cases c : y = x
    · subst c
      rw [put_same, put_same]
      rw [e] at t
      exact ⟨t.1, T⟩
    · rw [put_ne _ _ c, put_ne _ _ c]
      have hy : y = !x := by cases x <;> cases y <;> first | rfl | exact absurd rfl c
      subst hy
      exact t.fr f (fun h b hb => oth b h hb) nt
  have new : ∀ b ∈ n'.all (A.a x), b ∈ (A.n x).all (A.a x) ∨ H b = none := st.kn
  have hm : ∀ b, H b = none → b ∉ A.mut w := fun b hb => W.nfree hb
  refine ⟨f _ _ W.dic (inl _ (by simp [Wa.ls])), f _ _ W.po (tp _ _ W.po), f _ _ W.fi (tp _ _ W.fi), f _ _ W.ro (inl _ (by simp [Wa.ls])), fun y => (W.rd y).fr f (inl _ (by cases y <;> simp [Wa.ls])) nt ns, f _ _ W.wr (inl _ (by simp [Wa.ls])), fun y => f _ _ (W.wt y) (tp _ _ (W.wt y)), f _ _ W.hs (inl _ (by simp [Wa.ls])), fun y => f _ _ (W.ht y) (tp _ _ (W.ht y)),
    ⟨v0, v1, f _ _ t0 (inl _ (by simp [Wa.ls])), tk false v0 t1, tk true v1 t2⟩, f _ _ W.to (inl _ (by simp [Wa.ls])), W.nd, fun y hy b hb => ?_, fun h1 h2 b hb hq => ?_⟩
  · by_cases c : y = x
    · subst c
      rcases new b (by simpa [put_same] using hb) with h | h
      · exact W.dj y hs b h
      · exact fun q => hm b h (Wa.mut_ls q)
    · exact W.dj y (by simpa [put_ne _ _ c] using hy) b (by simpa [put_ne _ _ c] using hb)
  · have mt : ∀ y b, (w.talk y).isSome = true → b ∈ (A.n y).all (A.a y) → b ∈ A.mut w := fun y b h hb => Wa.mut_tk y (by unfold Wa.tk; rw [if_pos h]; exact hb)
    cases x
    · have h2 : (w.talk true).isSome = true := by simpa [put_ne (f := w.talk) (x := false) (y := true) _ (by decide)] using h2
      have hq : b ∈ (A.n true).all (A.a true) := by simpa [put_ne (f := A.n) (x := false) (y := true) _ (by decide)] using hq
      rcases new b (by simpa [put_same] using hb) with h | h
      · exact W.d2 hs h2 b h hq
      · exact hm b h (mt true b h2 hq)
    · have h1 : (w.talk false).isSome = true := by simpa [put_ne (f := w.talk) (x := true) (y := false) _ (by decide)] using h1
      have hb : b ∈ (A.n false).all (A.a false) := by simpa [put_ne (f := A.n) (x := true) (y := false) _ (by decide)] using hb
      rcases new b (by simpa [put_same] using hq) with h | h
      · exact W.d2 h1 hs b hb h
      · exact hm b h (mt false b h1 hb)
end SW
end
section
set_option maxRecDepth 100000
set_option maxHeartbeats 4000000
/-! What the world's invariant says of the walk's conditions. -/
namespace SW
open PySem PySem.Spec PyProof.Rows L2
/-- ports and answers of a segment -/
def SegP (s : Sg) : Prop := s.src ≤ 255 ∧ s.tgt ≤ 255 ∧ s.answer < 4294967296
theorem made_p {tl : Tl} {a c e o q : Bool} {num : Nat} {d : List Nat} (h1 : tl.here ≤ 255) (h2 : tl.there ≤ 255) (h3 : ∀ t, tl.t = some t → t.wanted < 4294967296) : SegP (tl.made a c e o q num d) := by
  refine ⟨h1, h2, ?_⟩
  unfold Tl.made
  dsimp only
  split
  · cases e : tl.t with
    | none => exact (by decide : (0 : Nat) < 4294967296)
    | some t => exact h3 t e
  · decide
theorem nodup_few : ∀ (n : Nat) (l : List Nat), l.Nodup → (∀ x ∈ l, x < n) → l.length ≤ n
  | 0, l, _, h => by
    cases l with
    | nil => exact Nat.le_refl _
    | cons x r => exact absurd (h x (by simp)) (Nat.not_lt_zero _)
  | n + 1, l, hd, h => by
    have h1 := nodup_few n (l.erase n) (hd.erase n) (fun x hx => by
      have h2 := h x (List.mem_of_mem_erase hx)
      have h3 : x ≠ n := fun e => by
        rw [e] at hx
        exact (List.Nodup.mem_erase_iff hd).mp hx |>.1 rfl
      omega)
    rw [List.length_erase] at h1
    split at h1 <;> omega
theorem TInv.few {f hi : Nat} {wr has : List Nat} {fin : Bool} {t : Tk} (I : TInv f wr fin hi has t) : t.ahead.length ≤ 128 := by
  have h := nodup_few 128 (t.ahead.map fun p => far f p.1 - far f t.wanted) ?_ ?_
  · rwa [List.length_map] at h
  · have nd := I.nd
    unfold List.Nodup at nd ⊢
    rw [List.pairwise_map] at nd ⊢
    refine nd.imp_of_mem fun {p q} hp hq hne e => hne ?_
    have h1 := I.ahead p hp
    have h2 := I.ahead q hq
    have hf := I.fl
    have e2 : far f p.1 = far f q.1 := by omega
    unfold far at e2
    rw [M_eq] at e2
    omega
  · intro x hx
    obtain ⟨p, hp, rfl⟩ := List.mem_map.mp hx
    have := I.ahead p hp
    omega
end SW
namespace SW
open PySem PySem.Spec PyProof.Rows L2
/-- the talks' own fits -/
theorem WInv.fit {w : Wd} (I : WInv w) {x : Bool} {tl : Tl} (h : w.talk x = some tl) : TlFit tl ∧ tl.last ≤ w.now ∧ tl.g.now ≤ w.now ∧ (∀ s, tl.g.since = some s → s ≤ w.now) ∧ tl.g.kept.length ≤ 6000 ∧ (tl.g.fin = false → full tl.g.kept ≤ 512) ∧ tl.here ≤ 255 ∧ tl.there ≤ 255 := by
  have hT := T_some h
  have ok := I.pair.ok x
  have g := I.pair.core.g x
  have tk := I.pair.core.t x
  have nt := I.pair.core.nt x
  rw [hT] at ok
  simp only [hT] at g tk nt
  have hx := I.pair.pt x
  have hnx := I.pair.pt (!x)
  refine ⟨⟨?_, ?_, ?_, ?_, ?_⟩, ok.last, ?_, g.since, ?_, g.room, ?_, ?_⟩
  · intro ho
    cases e : tl.t with
    | some t => rfl
    | none =>
      have := (nt e).2
      unfold Tl.isOpen at ho
      rw [this] at ho
      cases ho
  · intro t e
    exact ⟨(tk t e).wl, (tk t e).room⟩
  · intro t e
    have := (tk t e).few
    omega
  · rw [ok.fst]
    exact g.fl
  · rw [g.base]; exact moved_lt _ _
  · exact g.gnow
  · have := g.klen
    have h2 := slen_le (w.wrote x) tl.g.fin
    have h3 := g.len
    omega
  · rw [ok.here]; omega
  · rw [ok.there]; omega
end SW
namespace SW
open PySem PySem.Spec PyProof.Rows L2
theorem b_strm {wr : List Nat} {fin : Bool} {n : Nat} (h : It.b n ∈ strm wr fin) : n ∈ wr := by
  unfold strm tl_ at h
  rcases List.mem_cons.mp h with e | h
  · cases e
  · rcases List.mem_append.mp h with h | h
    · obtain ⟨m, hm, e⟩ := List.mem_map.mp h
      cases e
      exact hm
    · split at h
      · rw [List.mem_singleton] at h; cases h
      · cases h
theorem SegFit.of {y : Bool} {fy : Nat} {wr : List Nat} {fin : Bool} {hi fx wy : Nat} {s : Sg} (ok : SegOk y fy wr fin hi fx wy s) (p : SegP s) (hb : ∀ n ∈ wr, n < 256) : SegFit s := by
  refine ⟨p.1, p.2.1, ok.num, p.2.2, ok.rm, ok.dl, fun n hn => ?_⟩
  have hi : It.b n ∈ s.items := by
    unfold Sg.items
    exact List.mem_append_right _ (List.mem_append_left _ (List.mem_map.mpr ⟨n, hn, rfl⟩))
  cases c : s.c with
  | true => rw [(ok.cc c).2.1] at hi; cases hi
  | false =>
    rw [(ok.it c).2] at hi
    exact hb n (b_strm (List.mem_of_mem_drop (List.mem_of_mem_take hi)))
/-- what lies on a road of the world -/
theorem WInv.seg {w : Wd} (I : WInv w) {x : Bool} {s : Sg} (h : s ∈ w.road x) (p : SegP s) : SegFit s := SegFit.of (I.pair.core.seg x s h) p (I.pair.by_ (!x))
end SW
namespace SW
open PySem PySem.Spec PyProof.Rows L2
theorem tl_at_ports (tl : Tl) (t : Nat) : (tl.at_ t).here = tl.here ∧ (tl.at_ t).there = tl.there ∧ (tl.at_ t).t = tl.t := ⟨rfl, rfl, rfl⟩
theorem counted_ports (tl : Tl) (s : Sg) (t : Nat) : (tl.counted s t).here = tl.here ∧ (tl.counted s t).there = tl.there := by
  unfold Tl.counted Tl.hearA
  split
  · exact ⟨rfl, rfl⟩
  · exact ⟨rfl, rfl⟩
theorem heard1_ports (tl : Tl) (s : Sg) : (tl.heard1 s).here = tl.here ∧ (tl.heard1 s).there = tl.there := by
  unfold Tl.heard1
  split
  · exact ⟨rfl, rfl⟩
  · exact ⟨rfl, rfl⟩
/-- what is told behind a segment: ports and answers -/
theorem heardOut_p {tl : Tl} {s : Sg} {t : Nat} (h1 : tl.here ≤ 255) (h2 : tl.there ≤ 255) (h3 : TkFit tl) (h4 : TkFit (tl.heard s t)) : ∀ x ∈ tl.heardOut s t, SegP x := by
  have eh : tl.heard s t = match (tl.at_ t).way s with | .cuts => if (tl.at_ t).isCutBy s = true then { tl.at_ t with ending := .cut } else tl.at_ t | .counts => ((tl.at_ t).heard1 s).counted s t | _ => tl.at_ t := rfl
  have eo : tl.heardOut s t = match (tl.at_ t).way s with | .bad => [(tl.at_ t).made false true false false false s.answer []] | .counts => (((tl.at_ t).heard1 s).counted s t).reply s | _ => [] := rfl
  intro x hx
  rw [eo] at hx
  cases e : (tl.at_ t).way s with
  | dead => rw [e] at hx; cases hx
  | drop => rw [e] at hx; cases hx
  | bad =>
    rw [e] at hx
    rw [List.mem_singleton.mp hx]
    exact made_p h1 h2 fun tt q => (h3 tt q).1
  | cuts => rw [e] at hx; cases hx
  | early => rw [e] at hx; cases hx
  | counts =>
    rw [e] at hx eh
    have eh : tl.heard s t = ((tl.at_ t).heard1 s).counted s t := eh
    rw [eh] at h4
    have hp := counted_ports ((tl.at_ t).heard1 s) s t
    have hp1 := heard1_ports (tl.at_ t) s
    have hx : x ∈ (((tl.at_ t).heard1 s).counted s t).reply s := hx
    unfold Tl.reply at hx
    split at hx
    · rw [List.mem_singleton.mp hx]
      refine made_p ?_ ?_ fun tt q => (h4 tt q).1
      · rw [hp.1, hp1.1]; exact h1
      · rw [hp.2, hp1.2]; exact h2
    · cases hx
theorem dueOut_p {tl : Tl} {t : Nat} (h1 : tl.here ≤ 255) (h2 : tl.there ≤ 255) (h3 : TkFit tl) : ∀ x ∈ tl.dueOut t, SegP x := by
  intro x hx
  unfold Tl.dueOut at hx
  split at hx
  · cases hx
  · split at hx
    · cases hx
    · obtain ⟨p, _, rfl⟩ := List.mem_map.mp hx
      exact made_p h1 h2 fun tt q => (h3 tt q).1
theorem cutOut_p {tl : Tl} (h1 : tl.here ≤ 255) (h2 : tl.there ≤ 255) (h3 : TkFit tl) : ∀ x ∈ tl.cutOut, SegP x := by
  intro x hx
  unfold Tl.cutOut at hx
  split at hx
  · cases hx
  · rw [List.mem_singleton.mp hx]
    exact made_p h1 h2 fun tt q => (h3 tt q).1
end SW
end
section
set_option maxRecDepth 100000
set_option maxHeartbeats 4000000
/-! The world's invariant with what lies on its roads. -/
namespace SW
open PySem PySem.Spec PyProof.Rows L2
/-- x's road is another one -/
def Wd.rd (w : Wd) (x : Bool) (r : List Sg) : Wd := { w with road := put w.road x r }
structure WGood (w : Wd) : Prop where
  inv : WInv w
  seg : ∀ x, ∀ s ∈ w.road x, SegP s
section
variable {w : Wd}
theorem WGood.of_road {w' : Wd} (G : WGood w) (I : WInv w') (h : w'.road = w.road) : WGood w' := ⟨I, fun x s hs => G.seg x s (by rw [← h]; exact hs)⟩
theorem WGood.sfit (G : WGood w) {x : Bool} {s : Sg} (hs : s ∈ w.road x) : SegFit s := G.inv.seg hs (G.seg x s hs)
theorem WGood.heard (G : WGood w) {x : Bool} {s : Sg} {tl : Tl} (hs : s ∈ w.road x) (e : w.talk x = some tl) :
    TkFit (tl.heard s w.now) ∧ (tl.heard s w.now).g.base < 4294967296 ∧ ∀ q ∈ tl.heardOut s w.now, SegFit q ∧ SegP q := by
  have I2 := G.inv.come x hs
  rw [come_some e] at I2
  have f2 := I2.fit (x := x) (tl := tl.heard s w.now) (put_same _ _ _)
  obtain ⟨f1, _, _, _, _, _, h1, h2⟩ := G.inv.fit e
  have hp := heardOut_p h1 h2 f1.tk f2.1.tk
  refine ⟨f2.1.tk, f2.1.base, fun q hq => ⟨I2.seg (x := !x) (s := q) ?_ (hp q hq), hp q hq⟩⟩
  show q ∈ put w.road (!x) (w.road (!x) ++ _) (!x)
  rw [put_same]
  exact List.mem_append_right _ hq
theorem WGood.dues (G : WGood w) {x : Bool} {tl : Tl} (e : w.talk x = some tl) : ∀ q ∈ tl.dueOut w.now, SegFit q ∧ SegP q := by
  have I2 := G.inv.due x
  rw [due_some e] at I2
  obtain ⟨f1, _, _, _, _, _, h1, h2⟩ := G.inv.fit e
  have hp := dueOut_p (t := w.now) h1 h2 f1.tk
  refine fun q hq => ⟨I2.seg (x := !x) (s := q) ?_ (hp q hq), hp q hq⟩
  show q ∈ put w.road (!x) (w.road (!x) ++ _) (!x)
  rw [put_same]
  exact List.mem_append_right _ hq
theorem WGood.cuts (G : WGood w) {x : Bool} {tl : Tl} (e : w.talk x = some tl) : ∀ q ∈ tl.cutOut, SegFit q ∧ SegP q := by
  have I2 := G.inv.cut x
  rw [cut_some e] at I2
  obtain ⟨f1, _, _, _, _, _, h1, h2⟩ := G.inv.fit e
  have hp := cutOut_p h1 h2 f1.tk
  refine fun q hq => ⟨I2.seg (x := !x) (s := q) ?_ (hp q hq), hp q hq⟩
  show q ∈ put w.road (!x) (w.road (!x) ++ _) (!x)
  rw [put_same]
  exact List.mem_append_right _ hq
/-- what is told joins the other one's road -/
theorem mem_upd {x y : Bool} {tl : Tl} {out : List Sg} {q : Sg} (h : q ∈ (w.upd x tl out).road y) : q ∈ w.road y ∨ q ∈ out := by
  have h : q ∈ put w.road (!x) (w.road (!x) ++ out) y := h
  rcases eq_or_not x y with rfl | rfl
  · rw [put_not'] at h; exact .inl h
  · rw [put_same] at h; exact List.mem_append.mp h
theorem WGood.later (G : WGood w) (many : Nat) : WGood { w with now := w.now + many } := G.of_road (G.inv.later many) rfl
theorem WGood.tell (G : WGood w) (x : Bool) : WGood (w.tell x) := G.of_road (G.inv.tell x) rfl
theorem WGood.write (G : WGood w) (x : Bool) {d : List Nat} (hd : (w.wrote x).length + d.length ≤ 5000) (hb : ∀ n ∈ d, n < 256) : WGood (w.write x d) := G.of_road (G.inv.write x hd hb) (by unfold Wd.write; split <;> rfl)
theorem WGood.read (G : WGood w) (x : Bool) (n : Nat) : WGood (w.read x n) := G.of_road (G.inv.read x n) (by unfold Wd.read; split <;> rfl)
theorem WGood.finish (G : WGood w) (x : Bool) : WGood (w.finish x) := G.of_road (G.inv.finish x) (by unfold Wd.finish; split <;> rfl)
theorem WGood.due (G : WGood w) (x : Bool) : WGood (w.due x) := ⟨G.inv.due x, fun y s hs => by
  cases e : w.talk x with
  | none => rw [due_none e] at hs; exact G.seg y s hs
  | some tl =>
    rw [due_some e] at hs
    exact (mem_upd hs).elim (G.seg y s) fun h => (G.dues e s h).2⟩
theorem WGood.cut (G : WGood w) (x : Bool) : WGood (w.cut x) := ⟨G.inv.cut x, fun y s hs => by
  cases e : w.talk x with
  | none => rw [cut_none e] at hs; exact G.seg y s hs
  | some tl =>
    rw [cut_some e] at hs
    exact (mem_upd hs).elim (G.seg y s) fun h => (G.cuts e s h).2⟩
theorem WGood.ticked (G : WGood w) (many : Nat) : WGood (w.ticked many) := ((G.later many).due false).due true
theorem WGood.come (G : WGood w) {x : Bool} {s : Sg} {r : List Sg} (hs : s ∈ w.road x) (hr : ∀ q ∈ r, q ∈ w.road x) : WGood ((w.rd x r).come x s) := ⟨G.inv.comes x hs hr, fun y q hq => by
  have hq : q ∈ (({ w with road := put w.road x r } : Wd).come x s).road y := hq
  rw [come_roads] at hq
  rcases eq_or_not x y with rfl | rfl
  · rw [put_not'] at hq
    have hq : q ∈ put w.road y r y := hq
    rw [put_same] at hq
    exact G.seg y q (hr q hq)
  · rw [put_same] at hq
    rcases List.mem_append.mp hq with hq | hq
    · have hq : q ∈ put w.road x r (!x) := hq
      rw [put_not] at hq
      exact G.seg _ q hq
    · have hq : q ∈ (match w.talk x with | some tl => tl.heardOut s w.now | none => []) := hq
      cases e : w.talk x with
      | none => rw [e] at hq; cases hq
      | some tl => rw [e] at hq; exact ((G.heard hs e).2.2 q hq).2⟩
theorem WGood.rd (G : WGood w) {x : Bool} {r : List Sg} (hr : ∀ q ∈ r, q ∈ w.road x) : WGood (w.rd x r) := by
  have h : ∀ y, ∀ s ∈ put w.road x r y, s ∈ w.road y := fun y s hs => by
    rcases eq_or_not x y with rfl | rfl
    · rw [put_same] at hs; exact hr s hs
    · rw [put_not] at hs; exact hs
  exact ⟨G.inv.roads h, fun y s hs => G.seg y s (h y s hs)⟩
theorem rd_self (w : Wd) (x : Bool) : w.rd x (w.road x) = w := by unfold Wd.rd; rw [put_self]
theorem WGood.step (G : WGood w) : WGood w.step := by
  unfold Wd.step
  cases h : w.road false with
  | cons s r => exact G.come (x := false) (by rw [h]; exact List.mem_cons_self ..) fun q hq => by rw [h]; exact List.mem_cons_of_mem _ hq
  | nil =>
    simp only
    cases h2 : w.road true with
    | nil => exact G
    | cons s r => exact G.come (x := true) (by rw [h2]; exact List.mem_cons_self ..) fun q hq => by rw [h2]; exact List.mem_cons_of_mem _ hq
theorem WGood.run (G : WGood w) : ∀ k, WGood (w.run k)
  | 0 => G
  | k + 1 => (WGood.run G k).step
/-! ### lengths -/
def Wd.len (w : Wd) (n : Nat) : Prop := ∀ x, (w.road x).length ≤ n
theorem Wd.len.mono {n m : Nat} (h : w.len n) (hm : n ≤ m) : w.len m := fun x => Nat.le_trans (h x) hm
theorem len_upd {n m : Nat} {x : Bool} {tl : Tl} {out : List Sg} (h : w.len n) (ho : out.length ≤ m) : (w.upd x tl out).len (n + m) := fun y => by
  show (put w.road (!x) (w.road (!x) ++ out) y).length ≤ _
  have := h x
  have := h (!x)
  rcases eq_or_not x y with rfl | rfl
  · rw [put_not']; omega
  · rw [put_same, List.length_append]; omega
theorem dueOut_len (tl : Tl) (t : Nat) (h : tl.g.kept.length ≤ 6000) : (tl.dueOut t).length ≤ 6001 := by
  unfold Tl.dueOut
  split
  · exact Nat.zero_le _
  · split
    · exact Nat.zero_le _
    · rw [List.length_map]
      have := (duePairs_few tl.g t).1
      omega
theorem heardOut_len (tl : Tl) (s : Sg) (t : Nat) : (tl.heardOut s t).length ≤ 1 := by
  unfold Tl.heardOut
  split
  · exact Nat.le_refl _
  · unfold Tl.reply; split <;> simp
  · exact Nat.zero_le _
theorem cutOut_len (tl : Tl) : tl.cutOut.length ≤ 1 := by
  unfold Tl.cutOut
  split <;> simp
theorem len_due (I : WInv w) {n : Nat} (h : w.len n) (x : Bool) : (w.due x).len (n + 6001) := by
  cases e : w.talk x with
  | none => rw [due_none e]; exact h.mono (by omega)
  | some tl =>
    rw [due_some e]
    exact len_upd h (dueOut_len _ _ (I.fit e).2.2.2.2.1)
theorem len_ticked (I : WInv w) {n : Nat} (h : w.len n) (many : Nat) : (w.ticked many).len (n + 12002) := by
  have h1 := len_due (I.later many) (x := false) (n := n) (fun x => h x)
  have h2 := len_due ((I.later many).due false) h1 true
  exact h2.mono (by omega)
theorem len_cut {n : Nat} (h : w.len n) (x : Bool) : (w.cut x).len (n + 1) := by
  cases e : w.talk x with
  | none => rw [cut_none e]; exact h.mono (by omega)
  | some tl =>
    rw [cut_some e]
    exact len_upd (w := { w with cuts := true }) h (cutOut_len tl)
theorem len_come {n : Nat} (h : w.len n) (x : Bool) (s : Sg) : (w.come x s).len (n + 1) := fun y => by
  rw [come_roads]
  have h1 := h x
  have h2 := h (!x)
  rcases eq_or_not x y with rfl | rfl
  · rw [put_not']; omega
  · rw [put_same, List.length_append]
    cases e : w.talk x with
    | none => simp only [List.length_nil]; omega
    | some tl => have := heardOut_len tl s w.now; simp only; omega
theorem len_lies (w : Wd) : w.len w.lies := fun x => by
  unfold Wd.lies
  cases x <;> omega
theorem lies_len {n : Nat} (h : w.len n) : w.lies ≤ n + n := by
  unfold Wd.lies
  have := h false
  have := h true
  omega
theorem lies_step (I : WInv w) : w.step.lies ≤ w.lies := by
  by_cases h : w.empty
  · rw [step_empty h]; exact Nat.le_refl _
  · exact (step_load I h).2
theorem empty_len (h : w.empty) : w.len 0 := fun x => by cases x <;> simp [h.1, h.2]
end
end SW
end
section
set_option maxRecDepth 100000
set_option maxHeartbeats 4000000
/-! The world: its cells changed; what a step changes. -/
namespace SW
open PySem PySem.Spec PyProof.Rows L2
structure LsNe (A : Wa) : Prop where
  aw_lr : A.aw ≠ A.lr
  aw_lw : A.aw ≠ A.lw
  aw_lh : A.aw ≠ A.lh
  aw_lt : A.aw ≠ A.lt
  aw_lo : A.aw ≠ A.lo
  aw_r : ∀ x, A.aw ≠ A.r x
  lr_lw : A.lr ≠ A.lw
  lr_lh : A.lr ≠ A.lh
  lr_lt : A.lr ≠ A.lt
  lr_lo : A.lr ≠ A.lo
  lr_r : ∀ x, A.lr ≠ A.r x
  lw_lh : A.lw ≠ A.lh
  lw_lt : A.lw ≠ A.lt
  lw_lo : A.lw ≠ A.lo
  lw_r : ∀ x, A.lw ≠ A.r x
  lh_lt : A.lh ≠ A.lt
  lh_lo : A.lh ≠ A.lo
  lh_r : ∀ x, A.lh ≠ A.r x
  lt_lo : A.lt ≠ A.lo
  lt_r : ∀ x, A.lt ≠ A.r x
  lo_r : ∀ x, A.lo ≠ A.r x
theorem lsNe {A : Wa} (nd : A.ls.Nodup) : LsNe A := by
  unfold Wa.ls at nd
  simp only [List.nodup_cons, List.mem_cons, List.not_mem_nil, or_false, not_or] at nd
  obtain ⟨⟨a1, a2, a3, a4, a5, a6, a7⟩, ⟨b1, b2, b3, b4, b5, b6⟩, ⟨c1, c2, c3, c4, c5⟩, ⟨d1, d2, d3, d4⟩, ⟨e1, e2, e3⟩, ⟨f1, f2⟩, _⟩ := nd
  exact ⟨a1, a2, a3, a4, a5, fun x => by cases x <;> assumption, b1, b2, b3, b4, fun x => by cases x <;> assumption, c1, c2, c3, fun x => by cases x <;> assumption, d1, d2, fun x => by cases x <;> assumption, e1, fun x => by cases x <;> assumption, fun x => by cases x <;> assumption⟩
theorem WorldAt.tv {K : PySem.W.Frag} {H : Hp} {A : Wa} {w : Wd} (W : WorldAt K H A w) : ∃ v : Bool → V, H A.lt = some (.lst [v false, v true]) ∧ ∀ x, TalkO K H (A.a x) (A.n x) (v x) (w.talk x) := by
  obtain ⟨v0, v1, t0, t1, t2⟩ := W.ts
  exact ⟨fun x => if x = true then v1 else v0, t0, fun x => by cases x; exact t1; exact t2⟩
/-- one of the world's cells is written -/
structure Keep (K : PySem.W.Frag) (H' : Hp) (A : Wa) (w : Wd) (l : Addr) (v : Bool → V) : Prop where
  dic : A.aw ≠ l → H' A.aw = some (.dK (wd A w.now w.cuts))
  po : H' A.ap = some (.tup [.int (w.port false), .int (w.port true)])
  fi : H' A.af = some (.tup [.int (w.first false), .int (w.first true)])
  ro : A.lr ≠ l → H' A.lr = some (.lst [.ref (A.r false), .ref (A.r true)])
  rd : (∀ x, A.r x ≠ l) → ∀ x, OutAt K H' (A.r x) (w.road x)
  wr : A.lw ≠ l → H' A.lw = some (.lst [.ref (A.w false), .ref (A.w true)])
  wt : ∀ x, H' (A.w x) = some (.tup ((w.wrote x).map nV))
  hs : A.lh ≠ l → H' A.lh = some (.lst [.ref (A.h false), .ref (A.h true)])
  ht : ∀ x, H' (A.h x) = some (.tup ((w.has x).map nV))
  lt : A.lt ≠ l → H' A.lt = some (.lst [v false, v true])
  tk : ∀ x, TalkO K H' (A.a x) (A.n x) (v x) (w.talk x)
  to : A.lo ≠ l → H' A.lo = some (.lst [.bl (w.told false), .bl (w.told true)])
section
variable {K : PySem.W.Frag} {H H' : Hp} {A : Wa} {w : Wd} {l : Addr} {v : Bool → V}
theorem WorldAt.cell (W : WorldAt K H A w) (hv : H A.lt = some (.lst [v false, v true])) (tv : ∀ x, TalkO K H (A.a x) (A.n x) (v x) (w.talk x)) (hl : l ∈ A.ls) (f : Fr [l] H H') (nt : ∀ xs, H l ≠ some (.tup xs)) (ns : ∀ s u, ¬ ObjAt (He.ga K "Segment") H l (sf s u)) : Keep K H' A w l v := by
  have nt1 : ∀ b ∈ [l], ∀ xs, H b ≠ some (.tup xs) := fun b hb => by rw [List.mem_singleton.mp hb]; exact nt
  have ns1 : ∀ b ∈ [l], ∀ s u, ¬ ObjAt (He.ga K "Segment") H b (sf s u) := fun b hb => by rw [List.mem_singleton.mp hb]; exact ns
  have tp : ∀ (b : Addr) (xs : List V), H b = some (.tup xs) → b ∉ [l] := fun b xs e q => nt1 b q xs e
  have ne : ∀ b, b ≠ l → b ∉ [l] := fun b h q => h (List.mem_singleton.mp q)
  exact ⟨fun h => f _ _ W.dic (ne _ h), f _ _ W.po (tp _ _ W.po), f _ _ W.fi (tp _ _ W.fi), fun h => f _ _ W.ro (ne _ h), fun h x => (W.rd x).fr f (ne _ (h x)) nt1 ns1, fun h => f _ _ W.wr (ne _ h), fun x => f _ _ (W.wt x) (tp _ _ (W.wt x)), fun h => f _ _ W.hs (ne _ h), fun x => f _ _ (W.ht x) (tp _ _ (W.ht x)),
    fun h => f _ _ hv (ne _ h), fun x => (tv x).fr f (fun hx b hb q => W.dj x hx b hb (by rw [List.mem_singleton.mp q]; exact hl)) nt1, fun h => f _ _ W.to (ne _ h)⟩
theorem WorldAt.cellL (W : WorldAt K H A w) (hv : H A.lt = some (.lst [v false, v true])) (tv : ∀ x, TalkO K H (A.a x) (A.n x) (v x) (w.talk x)) {xs : List V} (hl : l ∈ A.ls) (h : H l = some (.lst xs)) (o : HO) : Keep K (upd H l o) A w l v :=
  W.cell hv tv hl Fr.up (fun ys e => by rw [h] at e; cases e) fun s u q => q.lst h rfl
/-- now and cuts -/
theorem WorldAt.dput (W : WorldAt K H A w) (now : Nat) (cuts : Bool) : WorldAt K (upd H A.aw (.dK (wd A now cuts))) A { w with now := now, cuts := cuts } := by
  obtain ⟨v, hv, tv⟩ := W.tv
  have k := W.cell (l := A.aw) hv tv (by simp [Wa.ls]) (Fr.up (o := .dK (wd A now cuts))) (fun ys e => by rw [W.dic] at e; cases e) fun s u q => q.dK W.dic rfl
  have n := lsNe W.nd
  exact ⟨upd_same, k.po, k.fi, k.ro n.aw_lr.symm, k.rd fun x => (n.aw_r x).symm, k.wr n.aw_lw.symm, k.wt, k.hs n.aw_lh.symm, k.ht, ⟨_, _, k.lt n.aw_lt.symm, k.tk false, k.tk true⟩, k.to n.aw_lo.symm, W.nd, W.dj, W.d2⟩
/-- what an end has read -/
theorem WorldAt.hset (W : WorldAt K H A w) (x : Bool) {p : Addr} {ns : List Nat} (hp : H p = some (.tup (ns.map nV))) : WorldAt K (upd H A.lh (.lst [.ref (put A.h x p false), .ref (put A.h x p true)])) { A with h := put A.h x p } { w with has := put w.has x ns } := by
  obtain ⟨v, hv, tv⟩ := W.tv
  have k := W.cellL (l := A.lh) hv tv (by simp [Wa.ls]) W.hs (.lst [.ref (put A.h x p false), .ref (put A.h x p true)])
  have n := lsNe W.nd
  refine ⟨k.dic n.aw_lh, k.po, k.fi, k.ro n.lr_lh, k.rd fun x => (n.lh_r x).symm, k.wr n.lw_lh, k.wt, upd_same, fun y => ?_, ⟨_, _, k.lt n.lh_lt.symm, k.tk false, k.tk true⟩, k.to n.lh_lo.symm, W.nd, W.dj, W.d2⟩
  show (upd H A.lh (.lst [.ref (put A.h x p false), .ref (put A.h x p true)])) (put A.h x p y) = some (.tup ((put w.has x ns y).map nV))
  rcases eq_or_not x y with rfl | rfl
  · rw [put_same, put_same, upd_ne (fun e => by rw [e, W.hs] at hp; cases hp)]; exact hp
  · rw [put_not, put_not]; exact k.ht _
/-- what an end wrote -/
theorem WorldAt.wset (W : WorldAt K H A w) (x : Bool) {p : Addr} {ns : List Nat} (hp : H p = some (.tup (ns.map nV))) : WorldAt K (upd H A.lw (.lst [.ref (put A.w x p false), .ref (put A.w x p true)])) { A with w := put A.w x p } { w with wrote := put w.wrote x ns } := by
  obtain ⟨v, hv, tv⟩ := W.tv
  have k := W.cellL (l := A.lw) hv tv (by simp [Wa.ls]) W.wr (.lst [.ref (put A.w x p false), .ref (put A.w x p true)])
  have n := lsNe W.nd
  refine ⟨k.dic n.aw_lw, k.po, k.fi, k.ro n.lr_lw, k.rd fun x => (n.lw_r x).symm, upd_same, fun y => ?_, k.hs n.lw_lh.symm, k.ht, ⟨_, _, k.lt n.lw_lt.symm, k.tk false, k.tk true⟩, k.to n.lw_lo.symm, W.nd, W.dj, W.d2⟩
  show (upd H A.lw (.lst [.ref (put A.w x p false), .ref (put A.w x p true)])) (put A.w x p y) = some (.tup ((put w.wrote x ns y).map nV))
  rcases eq_or_not x y with rfl | rfl
  · rw [put_same, put_same, upd_ne (fun e => by rw [e, W.wr] at hp; cases hp)]; exact hp
  · rw [put_not, put_not]; exact k.wt _
/-- an end finished by its own -/
theorem WorldAt.oset (W : WorldAt K H A w) (x : Bool) (b : Bool) : WorldAt K (upd H A.lo (.lst [.bl (put w.told x b false), .bl (put w.told x b true)])) A { w with told := put w.told x b } := by
  obtain ⟨v, hv, tv⟩ := W.tv
  have k := W.cellL (l := A.lo) hv tv (by simp [Wa.ls]) W.to (.lst [.bl (put w.told x b false), .bl (put w.told x b true)])
  have n := lsNe W.nd
  exact ⟨k.dic n.aw_lo, k.po, k.fi, k.ro n.lr_lo, k.rd fun x => (n.lo_r x).symm, k.wr n.lw_lo, k.wt, k.hs n.lh_lo, k.ht, ⟨_, _, k.lt n.lt_lo, k.tk false, k.tk true⟩, upd_same, W.nd, W.dj, W.d2⟩
/-- a talk begins -/
theorem WorldAt.born (W : WorldAt K H A w) (x : Bool) {a : Addr} {m : Nm} {tl : Tl} (hv : H A.lt = some (.lst [v false, v true])) (tv : ∀ x, TalkO K H (A.a x) (A.n x) (v x) (w.talk x)) (e : w.talk x = none) (T : TalkAt K H a m tl) (hf : ∀ b ∈ m.all a, b ∉ A.mut w) : WorldAt K (upd H A.lt (.lst [put v x (.ref a) false, put v x (.ref a) true])) { A with a := put A.a x a, n := put A.n x m } { w with talk := put w.talk x (some tl) } := by
  have k := W.cellL (l := A.lt) hv tv (by simp [Wa.ls]) hv (.lst [put v x (.ref a) false, put v x (.ref a) true])
  have n := lsNe W.nd
  have hl : ∀ b ∈ m.all a, b ∉ A.ls := fun b hb q => hf b hb (Wa.mut_ls q)
  have hlt : ∀ b ∈ m.all a, b ∉ [A.lt] := fun b hb q => hl b hb (by rw [List.mem_singleton.mp q]; simp [Wa.ls])
  have T2 : TalkO K (upd H A.lt (.lst [put v x (.ref a) false, put v x (.ref a) true])) a m (.ref a) (some tl) := TalkO.fr (o := some tl) ⟨rfl, T⟩ Fr.up (fun _ => hlt) fun b hb xs e => by rw [List.mem_singleton.mp hb, hv] at e; cases e
  have tk : ∀ y, TalkO K (upd H A.lt (.lst [put v x (.ref a) false, put v x (.ref a) true])) (put A.a x a y) (put A.n x m y) (put v x (.ref a) y) (put w.talk x (some tl) y) := fun y => by
    rcases eq_or_not x y with rfl | rfl
    · rw [put_same, put_same, put_same, put_same]; exact T2
    · rw [put_not, put_not, put_not, put_not]; exact k.tk _
  refine ⟨k.dic n.aw_lt, k.po, k.fi, k.ro n.lr_lt, k.rd fun x => (n.lt_r x).symm, k.wr n.lw_lt, k.wt, k.hs n.lh_lt, k.ht, ⟨_, _, upd_same, tk false, tk true⟩, k.to n.lt_lo.symm, W.nd, fun y hy b hb => ?_, fun h1 h2 b hb hq => ?_⟩
  · have hy : (put w.talk x (some tl) y).isSome = true := hy
    have hb : b ∈ (put A.n x m y).all (put A.a x a y) := hb
    rcases eq_or_not x y with rfl | rfl
    · rw [put_same, put_same] at hb; exact hl b hb
    · rw [put_not] at hy; rw [put_not, put_not] at hb; exact W.dj _ hy b hb
  · have h1 : (put w.talk x (some tl) false).isSome = true := h1
    have h2 : (put w.talk x (some tl) true).isSome = true := h2
    have hb : b ∈ (put A.n x m false).all (put A.a x a false) := hb
    have hq : b ∈ (put A.n x m true).all (put A.a x a true) := hq
    have inm : ∀ y, (w.talk y).isSome = true → ∀ b ∈ (A.n y).all (A.a y), b ∈ A.mut w := fun y hy b hb => Wa.mut_tk y (by unfold Wa.tk; rw [if_pos hy]; exact hb)
    cases x
    · rw [put_same, put_same] at hb
      rw [put_ne _ _ (by decide)] at h2
      rw [put_ne _ _ (by decide), put_ne _ _ (by decide)] at hq
      exact hf b hb (inm true h2 b hq)
    · rw [put_same, put_same] at hq
      rw [put_ne _ _ (by decide)] at h1
      rw [put_ne _ _ (by decide), put_ne _ _ (by decide)] at hb
      exact hf b hq (inm false h1 b hb)
end
/-- what changed: the world's own, or new -/
structure WStp (H H' : Hp) (A : Wa) (w : Wd) (A' : Wa) (w' : Wd) : Prop where
  aw : A'.aw = A.aw
  lt : A'.lt = A.lt
  kn : ∀ b ∈ A'.mut w', b ∈ A.mut w ∨ H b = none
  fr : Fr (A.mut w) H H'
section
variable {K : PySem.W.Frag} {H H' H1 H2 : Hp} {A A1 A2 : Wa} {w w1 w2 : Wd}
theorem WStp.refl (H : Hp) (A : Wa) (w : Wd) : WStp H H A w A w := ⟨rfl, rfl, fun b h => .inl h, Fr.refl _ _⟩
theorem WStp.same (s : Same H H') : WStp H H' A w A w := ⟨rfl, rfl, fun b h => .inl h, Fr.same s⟩
theorem WStp.trans (s : WStp H H1 A w A1 w1) (t : WStp H1 H2 A1 w1 A2 w2) : WStp H H2 A w A2 w2 := by
  refine ⟨t.aw.trans s.aw, t.lt.trans s.lt, fun b hb => ?_, fun b o e hb => ?_⟩
  · rcases t.kn b hb with h | h
    · exact s.kn b h
    · rcases s.fr.free h with h | h
      · exact .inr h
      · exact .inl h
  · refine t.fr b o (s.fr b o e hb) fun q => ?_
    rcases s.kn b q with h | h
    · exact hb h
    · rw [h] at e; cases e
/-- what the world has is as it was -/
theorem WStp.on (s : WStp H H1 A w A1 w1) (e1 : A2.ls = A1.ls) (e2 : ∀ x, A2.tk w2 x = A1.tk w1 x) (e3 : A2.aw = A1.aw := by rfl) (e4 : A2.lt = A1.lt := by rfl) : WStp H H1 A w A2 w2 := ⟨e3.trans s.aw, e4.trans s.lt, fun b h => s.kn b (by unfold Wa.mut at h ⊢; rw [e1, e2, e2] at h; exact h), s.fr⟩
theorem WStp.of_fr {F : List Addr} (f : Fr F H H') (h : ∀ b ∈ F, b ∈ A.ls) (e1 : A1.ls = A.ls := by rfl) (e2 : ∀ x, A1.tk w1 x = A.tk w x := by exact fun _ => rfl) (e3 : A1.aw = A.aw := by rfl) (e4 : A1.lt = A.lt := by rfl) : WStp H H' A w A1 w1 :=
  ⟨e3, e4, fun b h => .inl (by unfold Wa.mut at h ⊢; rw [e1, e2, e2] at h; exact h), f.mono fun b hb => Wa.mut_ls (h b hb)⟩
theorem WStp.talk {x : Bool} {n' : Nm} {tl tl' : Tl} (e : w.talk x = some tl) (st : Stp H H' (A.a x) (A.n x) n') : WStp H H' A w { A with n := put A.n x n' } { w with talk := put w.talk x (some tl') } := by
  have hs : (w.talk x).isSome = true := by rw [e]; rfl
  have own : ∀ b ∈ (A.n x).all (A.a x), b ∈ A.mut w := fun b hb => Wa.mut_tk x (by unfold Wa.tk; rw [if_pos hs]; exact hb)
  refine ⟨rfl, rfl, fun b hb => ?_, st.fr.mono own⟩
  have tk : ∀ y, b ∈ ({ A with n := put A.n x n' } : Wa).tk { w with talk := put w.talk x (some tl') } y → b ∈ A.mut w ∨ H b = none := fun y hy => by
    unfold Wa.tk at hy
    have hy : b ∈ (if (put w.talk x (some tl') y).isSome = true then (put A.n x n' y).all (A.a y) else []) := hy
    rcases eq_or_not x y with rfl | rfl
    · rw [put_same, put_same, Option.isSome_some, if_pos rfl] at hy
      exact (st.kn b hy).imp (own b) id
    · rw [put_not, put_not] at hy
      exact .inl (Wa.mut_tk (!x) hy)
  unfold Wa.mut at hb
  rcases List.mem_append.mp hb with hb | hb
  · exact .inl (Wa.mut_ls hb)
  · rcases List.mem_append.mp hb with hb | hb
    · exact tk false hb
    · exact tk true hb
theorem WStp.road {y : Bool} {p : Addr} {l : List Sg} {F : List Addr} (f : Fr F H H') (hF : ∀ b ∈ F, b ∈ A.mut w) (hp : H p = none) : WStp H H' A w { A with r := put A.r y p } { w with road := put w.road y l } :=
  ⟨rfl, rfl, fun b hb => (Wa.mut_road hb).imp id fun e => by rw [e]; exact hp, f.mono hF⟩
theorem WStp.born {x : Bool} {a : Addr} {m : Nm} {tl : Tl} {F : List Addr} (f : Fr F H H') (hF : ∀ b ∈ F, b ∈ A.mut w) (hf : ∀ b ∈ m.all a, H b = none) : WStp H H' A w { A with a := put A.a x a, n := put A.n x m } { w with talk := put w.talk x (some tl) } := by
  refine ⟨rfl, rfl, fun b hb => ?_, f.mono hF⟩
  have tk : ∀ y, b ∈ ({ A with a := put A.a x a, n := put A.n x m } : Wa).tk { w with talk := put w.talk x (some tl) } y → b ∈ A.mut w ∨ H b = none := fun y hy => by
    unfold Wa.tk at hy
    have hy : b ∈ (if (put w.talk x (some tl) y).isSome = true then (put A.n x m y).all (put A.a x a y) else []) := hy
    rcases eq_or_not x y with rfl | rfl
    · rw [put_same, put_same, put_same, Option.isSome_some, if_pos rfl] at hy
      exact .inr (hf b hy)
    · rw [put_not, put_not, put_not] at hy
      exact .inl (Wa.mut_tk (!x) hy)
  unfold Wa.mut at hb
  rcases List.mem_append.mp hb with hb | hb
  · exact .inl (Wa.mut_ls hb)
  · rcases List.mem_append.mp hb with hb | hb
    · exact tk false hb
    · exact tk true hb
/-- what is told by a talk is no part of the world -/
theorem WorldAt.out {x : Bool} {n' : Nm} {tl tl' : Tl} {r : Addr} (W : WorldAt K H A w) (e : w.talk x = some tl) (hr : H r = none ∨ r ∈ (A.n x).all (A.a x)) (hn : r ∉ n'.all (A.a x)) : r ∉ ({ A with n := put A.n x n' } : Wa).mut { w with talk := put w.talk x (some tl') } := by
  have hs : (w.talk x).isSome = true := by rw [e]; rfl
  have no : r ∉ A.ls ∧ ((w.talk (!x)).isSome = true → r ∉ (A.n (!x)).all (A.a (!x))) := by
    rcases hr with hr | hr
    · have := W.nfree hr
      exact ⟨fun q => this (Wa.mut_ls q), fun h q => this (Wa.mut_tk (!x) (by unfold Wa.tk; rw [if_pos h]; exact q))⟩
    · refine ⟨W.dj x hs r hr, fun h q => ?_⟩
      cases x
      · exact W.d2 hs h r hr q
      · exact W.d2 h hs r q hr
  intro q
  have tk : ∀ y, r ∉ ({ A with n := put A.n x n' } : Wa).tk { w with talk := put w.talk x (some tl') } y := fun y hy => by
    unfold Wa.tk at hy
    have hy : r ∈ (if (put w.talk x (some tl') y).isSome = true then (put A.n x n' y).all (A.a y) else []) := hy
    rcases eq_or_not x y with rfl | rfl
    · rw [put_same, put_same, Option.isSome_some, if_pos rfl] at hy
      exact hn hy
    · rw [put_not, put_not] at hy
      split at hy
      · rename_i h; exact no.2 h hy
      · cases hy
  unfold Wa.mut at q
  rcases List.mem_append.mp q with q | q
  · exact no.1 q
  · rcases List.mem_append.mp q with q | q
    · exact tk false q
    · exact tk true q
end
end SW
end
section
set_option maxRecDepth 100000
set_option maxHeartbeats 4000000
/-! The law: a segment comes. -/
namespace SW
open PySem PySem.Spec PyProof.Rows L2
theorem ex_fne {σ : L2.St} {H : Hp} {Q : VK} {sp : Sp} {tt : TA} (q : tt σ H fun vs H1 => sp (vs ++ []) H1 Q E0) : tCall sp [] E0 tt σ H Q := q
theorem ans_and2' {σ : L2.St} {H : Hp} {t u : TT} {b1 b2 : Bool} (h1 : Ans t σ H b1) (h2 : Ans u σ H b2) : Ans (tAnd t u) σ H (b1 && b2) := ans_and2 h1 h2
theorem wd_few {A : Wa} {now : Nat} {cuts : Bool} : (wd A now cuts).length < sizeLine := by show 9 < sizeLine; decide
theorem WStp.sent {K : PySem.W.Frag} {H H1 H2 : Hp} {A : Wa} {w : Wd} {x : Bool} {n' : Nm} {tl tl' : Tl} {l : List Sg} {r p : Addr} (e : w.talk x = some tl) (st : Stp H H1 (A.a x) (A.n x) n') (hr : H r = none ∨ r ∈ (A.n x).all (A.a x)) (hp : H1 p = none) (f : Fr [A.lr, r] H1 H2) :
    WStp H H2 A w { A with n := put A.n x n', r := put A.r (!x) p } { w with talk := put w.talk x (some tl'), road := put w.road (!x) l } := by
  have s1 := WStp.talk (tl' := tl') e st
  have hs : (w.talk x).isSome = true := by rw [e]; rfl
  refine ⟨rfl, rfl, fun b hb => ?_, fun b o eb hb => ?_⟩
  · have hb : b ∈ ({ ({ A with n := put A.n x n' } : Wa) with r := put A.r (!x) p } : Wa).mut { ({ w with talk := put w.talk x (some tl') } : Wd) with road := put w.road (!x) l } := hb
    rcases Wa.mut_road hb with h | h
    · exact s1.kn b h
    · rw [h]
      exact (s1.fr.free hp).symm
  · refine f b o (s1.fr b o eb hb) fun q => ?_
    rcases List.mem_cons.mp q with q | q
    · exact hb (by rw [q]; exact Wa.mut_ls (by simp [Wa.ls]))
    · have q := List.mem_singleton.mp q
      rcases hr with hr | hr
      · rw [q, hr] at eb; cases eb
      · exact hb (by rw [q]; exact Wa.mut_tk x (by unfold Wa.tk; rw [if_pos hs]; exact hr))
def spCome (K : PySem.W.Frag) : Sp := fun vs H Q _ => ∃ (A : Wa) (w : Wd) (x : Bool) (r : List Sg) (b u : Addr) (s : Sg), vs = [.ref A.aw, .int (eI x), .ref b] ∧ WorldAt K H A (w.rd x r) ∧ WGood w ∧ s ∈ w.road x ∧ SegU K H b u s ∧ (w.rd x r).len 3900000 ∧
  ∀ A' H', WorldAt K H' A' ((w.rd x r).come x s) → WStp H H' A (w.rd x r) A' ((w.rd x r).come x s) → Q .non H'
section
variable {P : Program} {w : World} {K : PySem.W.Frag} {mg : Str → Option Value} {base : Heap}
theorem ok_L_come (S : Says K mg) (F_L_sent : Fn P w K mg base 1 "_law_sent" ["_law_world", "_law_end", "_law_segments"] (spSent K)) (F_Talk_heard : Mt P w K mg base 7 "Talk" "heard" ["self", "segment", "tick"] (spKHeard K)) (F_Talk : Mr P w K mg base 5 "Talk" ["self", "here", "there", "first", "tick", "opening"] [] (spKInit5 K)) : Fn P w K mg base 8 "_law_come" ["_law_world", "_law_end", "_law_segment"] (spCome K) := by
  obtain ⟨fd, F⟩ := S.u_L_come
  have sc : FnScope ["_law_world", "_law_end", "_law_segment", "_law_talk", "_law_ports"] ["_law_world", "_law_end", "_law_segment"] (defScope s_L_come) := ⟨rfl, rfl, rfl, by decide +kernel, rfl, by decide +kernel, by decide +kernel⟩
  refine ⟨⟨fd, F.ok sc (fun vs H Q E h => ?_) (fun cdv A outer s H vs Q E hr h => ⟨_, PSs.nox (pss_cons (ps_set (i := 3) sc.nd rfl (Or.inl rfl) (pe_ix ix_list (pe_dget (hu_of hr) (pv 0) pe_str (fun _ _ => rfl)) (pv 1) (fun _ _ => rfl)))
      (pss_cons (ps_dput (hu_of hr) (pv 0) pe_str (pe_or (pe_dget (hu_of hr) (pv 0) pe_str (fun _ _ => rfl)) (pe_one (pe_cmpR op_in_sign pe_str (pe_fld (pv 2) rfl) rfl))) rfl)
      (pss_one (ps_if (pt_cmpR op_notN (pv 3) pe_non (nomark _)) (pss_one (ps_expr (pe_fn F_L_sent (hr.mono (by decide)) (pa_cons (pv 0) (pa_cons (pv 1) (pa_cons (pe_mt (pv 3) F_Talk_heard (hr.mono (by decide)) (pa_cons (pv 2) (pa_cons (pe_dget (hu_of hr) (pv 0) pe_str (fun _ _ => rfl)) pa_nil))) pa_nil)))))) (pss_one (ps_if (PW.pt (pw_and (pt_cmpR op_in_sign pe_str (pe_fld (pv 2) rfl) rfl) (pw_and (pt_cmpR op_notIn_sign pe_str (pe_fld (pv 2) rfl) rfl) (pw_and1 (pt_cmpR op_notIn_sign pe_str (pe_fld (pv 2) rfl) rfl))))) (pss_cons (ps_set (i := 4) sc.nd rfl (Or.inl rfl) (pe_dget (hu_of hr) (pv 0) pe_str (fun _ _ => rfl)))
      (pss_one (ps_asg (pe_mr F_Talk (hr.mono (by decide)) (pa_cons (pe_ix ix_tup (pv 4) pe_int (fun _ _ => rfl)) (pa_cons (pe_ix ix_tup (pv 4) pe_int (fun _ _ => rfl)) (pa_cons (pe_ix ix_tup (pe_dget (hu_of hr) (pv 0) pe_str (fun _ _ => rfl)) pe_int (fun _ _ => rfl)) (pa_cons (pe_dget (hu_of hr) (pv 0) pe_str (fun _ _ => rfl)) (pa_cons (pv 2) pa_nil)))))) (pg_sub (pe_dget (hu_of hr) (pv 0) pe_str (fun _ _ => rfl)) (pv 1) set_list)))) pss_nil)))))), ?_⟩), F.bindsN (fun _ _ _ _ _ _ us hl => match us, hl with | [_, _, _], _ => rfl)⟩, F.kp, S.g__law_come⟩
  · obtain ⟨_, _, _, _, _, _, _, rfl, _⟩ := h
    rfl
  · obtain ⟨A, w, x, r, b, u, s, rfl, W, G, hs, U, hl, k⟩ := h
    obtain ⟨v, hv, tv⟩ := W.tv
    have sf1 := G.sfit hs
    refine sq_av (val_ix (val_dget (k := .inr "talks") (val_var rfl) val_c W.dic rfl wd_talks) (val_var rfl) hv (at_pair v x)) ?_
    have vm : ∀ (σ : L2.St), σ[2]? = some (some (.ref b)) → Val (tOp rInSg (tC (.str "c")) (tFld K (tVar 2) "marks")) σ H (.bl s.c) := fun σ h2 => val_sg val_c (congrArg V.str s_c) (val_obj (val_var h2) U.ob S.c_Segment S.n_Segment_marks sf_marks) (mark_c _ _ _ _ _)
    have vc : ∀ (σ : L2.St), σ[0]? = some (some (.ref A.aw)) → σ[2]? = some (some (.ref b)) → Val (tOrV (tDGet (tVar 0) (tC (.str "cuts"))) (tOp rInSg (tC (.str "c")) (tFld K (tVar 2) "marks"))) σ H (.bl (w.cuts || s.c)) := fun σ h0 h2 => by
      have hd : Val (tDGet (tVar 0) (tC (.str "cuts"))) σ H (.bl w.cuts) := val_dget (k := .inr "cuts") (val_var h0) val_c W.dic rfl wd_cuts
      cases e : w.cuts with
      | true => rw [e] at hd; exact val_orT hd
      | false => rw [e] at hd; exact val_orF hd (vm σ h2)
    refine sq_dput (k := .inr "cuts") (vc _ rfl rfl) (val_var rfl) val_c W.dic rfl wd_few ?_
    rw [wp_cuts]
    obtain ⟨H1, eH⟩ : ∃ H1, H1 = upd H A.aw (.dK (wd A (w.rd x r).now (w.cuts || s.c))) := ⟨_, rfl⟩
    rw [← eH]
    have f1 : Fr [A.aw] H H1 := by rw [eH]; exact Fr.up
    have W1 : WorldAt K H1 A ((w.rd x r).seen s) := by rw [eH]; exact W.dput w.now (w.cuts || s.c)
    have U1 : SegU K H1 b u s := U.fr f1 (by simpa using U.ob.dK W.dic) (by simpa using fun e => by have := U.da; rw [e, W.dic] at this; cases this)
    have sd : WStp H H1 A (w.rd x r) A ((w.rd x r).seen s) := WStp.of_fr f1 (by simp [Wa.ls])
    clear f1 eH
    obtain ⟨v1, hv1, tv1⟩ := W1.tv
    cases e : w.talk x with
    | some tl =>
      have e1 : ((w.rd x r).seen s).talk x = some tl := e
      have hvx : v x = .ref (A.a x) := by have := tv x; rw [show (w.rd x r).talk x = some tl from e] at this; exact this.1
      have T1 : TalkAt K H1 (A.a x) (A.n x) tl := by have := tv1 x; rw [e1] at this; exact this.2
      obtain ⟨fit, f2, f3, f4, f5, f6, f7, f8⟩ := G.inv.fit e
      obtain ⟨g1, g2, g3⟩ := G.heard hs e
      obtain ⟨t1, KT1⟩ := id T1
      refine st_yes (ans_notN' (val_var rfl) (by rw [hvx]; rfl)) (st_dr (ex_fne (ex_c1 (val_var rfl) (ex_c1 (val_var rfl) (ex_ce (ex_mt (val_to (val_var rfl) hvx) KT1.ob (by kernel_rfl) (arg_cons (val_var rfl) (arg_cons (val_dget (k := .inr "now") (val_var rfl) val_c W1.dic rfl wd_now) arg_nil)) ?_))))))
      refine ⟨A.a x, A.n x, tl, b, u, s, w.now, rfl, T1, U1, sf1, fit, f2, f3, g1, g2, fun q hq => (g3 q hq).1, fun n' r' H2 hr hn T2 O2 st => ta_nil ?_⟩
      have W2 := W1.talk e1 st T2
      have hr2 := W1.out (tl' := tl.heard s w.now) e1 hr hn
      have ec : (w.rd x r).come x s = { (w.rd x r).seen s with talk := put w.talk x (some (tl.heard s w.now)), road := put (w.rd x r).road (!x) ((w.rd x r).road (!x) ++ tl.heardOut s w.now) } := by
        rw [come_some (w := w.rd x r) e]; rfl
      rw [ec] at k
      exact ⟨{ A with n := put A.n x n' }, { (w.rd x r).seen s with talk := put ((w.rd x r).seen s).talk x (some (tl.heard s w.now)) }, x, r', tl.heardOut s w.now, rfl, W2, O2, hr2, Nat.le_trans (hl (!x)) (by decide), Nat.le_trans (heardOut_len _ _ _) (by decide), fun p H3 hp W3 F3 => k _ H3 W3 (sd.trans (WStp.sent (K := K) e1 st hr hp F3))⟩
    | none =>
      have e1 : ((w.rd x r).seen s).talk x = none := e
      have hvx : v x = .non := by have := tv x; rw [show (w.rd x r).talk x = none from e] at this; exact this
      refine st_no (ans_notN' (val_var rfl) (by rw [hvx]; rfl)) ?_
      have m1 : ∀ σ : L2.St, σ[2]? = some (some (.ref b)) → Ans (tTest (tOp rInSg (tC (.str "o")) (tFld K (tVar 2) "marks"))) σ H1 s.o := fun σ h1 => ans_sg val_c (congrArg V.str s_o) (val_obj (val_var h1) U1.ob S.c_Segment S.n_Segment_marks sf_marks) (mark_o _ _ _ _ _)
      have m2 : ∀ σ : L2.St, σ[2]? = some (some (.ref b)) → Ans (tTest (tOp rNiSg (tC (.str "a")) (tFld K (tVar 2) "marks"))) σ H1 (!s.a) := fun σ h1 => ans_nsg val_c (congrArg V.str s_a) (val_obj (val_var h1) U1.ob S.c_Segment S.n_Segment_marks sf_marks) (by rw [mark_a])
      have m3 : ∀ σ : L2.St, σ[2]? = some (some (.ref b)) → Ans (tTest (tOp rNiSg (tC (.str "c")) (tFld K (tVar 2) "marks"))) σ H1 (!s.c) := fun σ h1 => ans_nsg val_c (congrArg V.str s_c) (val_obj (val_var h1) U1.ob S.c_Segment S.n_Segment_marks sf_marks) (by rw [mark_c])
      have mm := fun (σ : L2.St) h => ans_and2' (m1 σ h) (ans_and2' (m2 σ h) (m3 σ h))
      by_cases c : s.o = true ∧ s.a = false ∧ s.c = false
      · refine st_yes (by have := fun σ h => mm σ h; rw [c.1, c.2.1, c.2.2] at this; exact this _ rfl) ?_
        refine sq_av (val_dget (k := .inr "ports") (val_var rfl) val_c W1.dic rfl wd_ports) ?_
        have ec : (w.rd x r).come x s = { (w.rd x r).seen s with talk := put w.talk x (some (.new (w.port true) (w.port false) (w.first true) w.now (some s.number))) } := by
          unfold Wd.come; rw [show (w.rd x r).talk x = none from e]; exact if_pos c
        rw [ec] at k
        have pt := G.inv.pair.pt
        have fl := (G.inv.pair.g true).fl
        refine st_tup (ex_make (arg_cons (val_ixT (val_var rfl) val_c W1.po rfl) (arg_cons (val_ixT (val_var rfl) val_c W1.po rfl) (arg_cons (val_ixT (val_dget (k := .inr "firsts") (val_var rfl) val_c W1.dic rfl wd_firsts) val_c W1.fi rfl) (arg_cons (val_dget (k := .inr "now") (val_var rfl) val_c W1.dic rfl wd_now) (arg_cons (val_var rfl) arg_nil))))) fun a dx ha hdx hd => ?_)
        have sm := Same.made (C := He.ga K "Talk") ha hdx hd
        refine ⟨a, w.port true, w.port false, w.first true, w.now, b, u, s, rfl, pt true, pt false, fl, ⟨dx, upd_same⟩, U1.same sm, sf1.number, fun m H2 T2 kn F2 => ⟨rfl, ?_⟩⟩
        have s2 : Same H1 H2 := fun b o e => F2 b o (sm b o e) (by simp [ne_of_none e ha])
        have W2 := W1.same s2
        obtain ⟨v2, hv2, tv2⟩ := W2.tv
        have hf : ∀ b ∈ m.all a, H1 b = none := fun b hb => by
          rcases kn b hb with q | q
          · rw [q]; exact ha
          · exact sm.free q
        have W3 := W2.born x hv2 tv2 e1 T2 fun b hb => W1.nfree (hf b hb)
        refine (val_dget (k := .inr "talks") (val_var rfl) val_c W2.dic rfl wd_talks) _ (val_var (i := 1) rfl _ ⟨A.lt, _, _, _, rfl, rfl, hv2, ix_pair _ _ x, ?_⟩)
        rw [set_pair v2 x (.ref a)]
        exact k _ _ W3 (sd.trans (WStp.born (F := [A.lt]) ((Fr.same s2).trans Fr.up) (by intro b hb; rw [List.mem_singleton.mp hb]; exact Wa.mut_ls (by simp [Wa.ls])) hf))
      · have ec : (w.rd x r).come x s = (w.rd x r).seen s := by
          unfold Wd.come; rw [show (w.rd x r).talk x = none from e]; exact if_neg c
        rw [ec] at k
        refine st_no (by
          have := fun σ h => mm σ h
          rw [show (s.o && (!s.a && !s.c)) = false by rw [Bool.eq_false_iff]; intro z; rw [Bool.and_eq_true, Bool.and_eq_true, Bool.not_eq_true', Bool.not_eq_true'] at z; exact c z] at this
          exact this _ rfl) (st_next ?_)
        exact k _ _ W1 sd
end
end SW
end
section
set_option maxRecDepth 100000
set_option maxHeartbeats 4000000
/-! The law: ticks. -/
namespace SW
open PySem PySem.Spec PyProof.Rows L2
theorem st_rng1 {σ : L2.St} {H : Hp} {te : TE} {D : Ends} {g : TG} {tb : TS} {n : Nat} (hv : Val te σ H (.int n)) (hn : n < 1000000) (Pv : Nat → L2.St → Hp → Prop) (h0 : Pv 0 σ H)
    (hs : ∀ i σ H, i < n → Pv i σ H → g (.int (i : Nat)) σ H fun σ2 H2 => tb { D with nx := Pv (i + 1), ct := Pv (i + 1), bk := D.nx } σ2 H2)
    (hd : ∀ σ H, Pv n σ H → D.nx σ H) : tFor (iRng1 (tCons te tNil)) g tb D σ H :=
  sq_rng1 (u2 := fun D σ H => D.nx σ H) hv hn Pv h0 hs hd
noncomputable def Wd.dues (w : Wd) : Nat → Wd
  | 0 => w
  | 1 => w.due false
  | _ => (w.due false).due true
theorem dues_step (w : Wd) {i : Nat} (h : i < 2) : ∃ x : Bool, ((i : Nat) : Int) = eI x ∧ w.dues (i + 1) = (w.dues i).due x := by
  match i, h with
  | 0, _ => exact ⟨false, rfl, rfl⟩
  | 1, _ => exact ⟨true, rfl, rfl⟩
theorem WGood.dues2 {w : Wd} (G : WGood w) : ∀ i, WGood (w.dues i)
  | 0 => G
  | 1 => G.due false
  | i + 2 => (G.due false).due true
theorem len_dues {w : Wd} (G : WGood w) {n : Nat} (h : w.len n) : ∀ i, (w.dues i).len (n + 12002)
  | 0 => h.mono (by omega)
  | 1 => (len_due G.inv h false).mono (by omega)
  | i + 2 => (len_due (G.due false).inv (len_due G.inv h false) true).mono (by omega)
/-- what telling asks -/
def DueFit (w : Wd) : Prop := ∀ x tl, w.talk x = some tl → TlFit tl ∧ tl.last ≤ w.now ∧ tl.g.now ≤ w.now ∧ (∀ s, tl.g.since = some s → s ≤ w.now) ∧ tl.g.kept.length ≤ 6000 ∧ ∀ q ∈ tl.dueOut w.now, SegFit q
theorem WGood.dueFit {w : Wd} (G : WGood w) : DueFit w := fun x tl e => by
  obtain ⟨f1, f2, f3, f4, f5, _⟩ := G.inv.fit e
  exact ⟨f1, f2, f3, f4, f5, fun q hq => (G.dues e q hq).1⟩
def TkOk (w : Wd) (many : Nat) : Prop := ∀ i, i < 2 → DueFit (({ w with now := w.now + many } : Wd).dues i) ∧ (({ w with now := w.now + many } : Wd).dues i).len 3900000
theorem WGood.tkOk {w : Wd} (G : WGood w) (hl : w.len 900000) (many : Nat) : TkOk w many := fun i _ => ⟨((G.later many).dues2 i).dueFit, (len_dues (w := { w with now := w.now + many }) (G.later many) (n := 900000) (fun x => hl x) i).mono (by decide)⟩
def spTicked (K : PySem.W.Frag) : Sp := fun vs H Q _ => ∃ (A : Wa) (w : Wd) (many : Nat), vs = [.ref A.aw, .int many] ∧ WorldAt K H A w ∧ TkOk w many ∧
  ∀ A' H', WorldAt K H' A' (w.ticked many) → WStp H H' A w A' (w.ticked many) → Q .non H'
section
variable {P : Program} {w : World} {K : PySem.W.Frag} {mg : Str → Option Value} {base : Heap}
theorem ok_L_ticked (S : Says K mg) (F_L_sent : Fn P w K mg base 1 "_law_sent" ["_law_world", "_law_end", "_law_segments"] (spSent K)) (F_Talk_due : Mt P w K mg base 7 "Talk" "due" ["self", "tick"] (spKDue K)) : Fn P w K mg base 8 "_law_ticked" ["_law_world", "_law_many"] (spTicked K) := by
  obtain ⟨fd, F⟩ := S.u_L_ticked
  have sc : FnScope ["_law_world", "_law_many", "_law_end"] ["_law_world", "_law_many"] (defScope s_L_ticked) := ⟨rfl, rfl, rfl, by decide +kernel, rfl, by decide +kernel, by decide +kernel⟩
  refine ⟨⟨fd, F.ok sc (fun vs H Q E h => ?_) (fun cdv A outer s H vs Q E hr h => ⟨_, PSs.nox (pss_cons (ps_dput (hu_of hr) (pv 0) pe_str (pe_op op_add (pe_dget (hu_of hr) (pv 0) pe_str (fun _ _ => rfl)) (pv 1)) rfl)
      (pss_one (ps_for PassesOwn.never rfl (pi_range1 rfl S.f_range (pa_cons pe_int pa_nil)) (pg_name (i := 2) sc.nd rfl (Or.inl rfl)) (pss_one (ps_if (pt_cmpR op_notN (pe_ix ix_list (pe_dget (hu_of hr) (pv 0) pe_str (fun _ _ => rfl)) (pv 2) (fun _ _ => rfl)) pe_non (nomark _)) (pss_one (ps_expr (pe_fn F_L_sent (hr.mono (by decide)) (pa_cons (pv 0) (pa_cons (pv 2) (pa_cons (pe_mt (pe_ix ix_list (pe_dget (hu_of hr) (pv 0) pe_str (fun _ _ => rfl)) (pv 2) (fun _ _ => rfl)) F_Talk_due (hr.mono (by decide)) (pa_cons (pe_dget (hu_of hr) (pv 0) pe_str (fun _ _ => rfl)) pa_nil)) pa_nil)))))) pss_nil))))), ?_⟩), F.bindsN (fun _ _ _ _ _ _ us hl => match us, hl with | [_, _], _ => rfl)⟩, F.kp, S.g__law_ticked⟩
  · obtain ⟨_, _, _, rfl, _⟩ := h
    rfl
  · obtain ⟨A, w, many, rfl, W, ok, k⟩ := h
    refine sq_dput (k := .inr "now") (v := .int ((w.now + many : Nat) : Int)) (val_to (val_add (val_dget (k := .inr "now") (val_var rfl) val_c W.dic rfl wd_now) (val_var rfl)) (congrArg V.int (Int.natCast_add _ _).symm)) (val_var rfl) val_c W.dic rfl wd_few ?_
    rw [wp_now]
    obtain ⟨H1, eH⟩ : ∃ H1, H1 = upd H A.aw (.dK (wd A (w.now + many) w.cuts)) := ⟨_, rfl⟩
    rw [← eH]
    obtain ⟨w1, ew⟩ : ∃ w1 : Wd, w1 = { w with now := w.now + many } := ⟨_, rfl⟩
    have f1 : Fr [A.aw] H H1 := by rw [eH]; exact Fr.up
    have W1 : WorldAt K H1 A w1 := by rw [eH, ew]; exact W.dput (w.now + many) w.cuts
    have sd : WStp H H1 A w A w1 := by rw [ew]; exact WStp.of_fr f1 (by simp [Wa.ls])
    have ok1 : ∀ i, i < 2 → DueFit (w1.dues i) ∧ (w1.dues i).len 3900000 := by rw [ew]; exact ok
    have et : w.ticked many = w1.dues 2 := by rw [ew]; rfl
    rw [et] at k
    clear f1 eH ew et
    refine st_rng1 (n := 2) val_c (by decide) (fun i σ H' => ∃ z A', σ = [some (V.ref A.aw), some (V.int many), z] ∧ WorldAt K H' A' (w1.dues i) ∧ WStp H H' A w A' (w1.dues i)) ⟨none, A, rfl, W1, sd⟩ ?_ ?_
    · rintro i σ H2 hi ⟨z, A2, rfl, W2, s2⟩
      obtain ⟨x, ex, ed⟩ := dues_step w1 hi
      rw [ex]
      obtain ⟨Di, li⟩ := ok1 i hi
      rw [ed]
      generalize w1.dues i = wi at *
      show _
      obtain ⟨v, hv, tv⟩ := W2.tv
      have ea : A2.aw = A.aw := s2.aw
      rw [← ea]
      have hix : ∀ σ : L2.St, σ[0]? = some (some (.ref A2.aw)) → σ[2]? = some (some (.int (eI x))) → Val (tOp (rIxL K) (tDGet (tVar 0) (tC (.str "talks"))) (tVar 2)) σ H2 (v x) := fun σ h0 h2 => val_ix (val_dget (k := .inr "talks") (val_var h0) val_c W2.dic rfl wd_talks) (val_var h2) hv (at_pair v x)
      cases e : wi.talk x with
      | none =>
        have hvx : v x = .non := by have := tv x; rw [e] at this; exact this
        rw [due_none e]
        refine st_no (ans_notN' (hix _ rfl rfl) (by rw [hvx]; rfl)) (st_next ?_)
        exact ⟨_, A2, rfl, W2, s2⟩
      | some tl =>
        have hvx : v x = .ref (A2.a x) := by have := tv x; rw [e] at this; exact this.1
        have T1 : TalkAt K H2 (A2.a x) (A2.n x) tl := by have := tv x; rw [e] at this; exact this.2
        obtain ⟨fit, g2, g3, g4, g5, gd⟩ := Di x tl e
        obtain ⟨t1, KT1⟩ := id T1
        rw [due_some e]
        refine st_yes (ans_notN' (hix _ rfl rfl) (by rw [hvx]; rfl)) (st_dr (ex_fne (ex_c1 (val_var rfl) (ex_c1 (val_var rfl) (ex_ce (ex_mt (val_to (hix _ rfl rfl) hvx) KT1.ob (by kernel_rfl) (arg_cons (val_dget (k := .inr "now") (val_var rfl) val_c W2.dic rfl wd_now) arg_nil) ?_))))))
        refine ⟨A2.a x, A2.n x, tl, wi.now, rfl, T1, fit, g2, g3, g4, g5, gd, fun n' r' H3 hr hn T3 O3 st => ta_nil ?_⟩
        have W3 := W2.talk e st T3
        have hr3 := W2.out (tl' := tl.due wi.now) e hr hn
        refine ⟨{ A2 with n := put A2.n x n' }, { wi with talk := put wi.talk x (some (tl.due wi.now)) }, x, r', tl.dueOut wi.now, rfl, W3, O3, hr3, Nat.le_trans (li (!x)) (by decide), Nat.le_trans (dueOut_len _ _ g5) (by decide), fun p H4 hp W4 F4 => ?_⟩
        exact ⟨_, _, rfl, W4, s2.trans (WStp.sent (K := K) e st hr hp F4)⟩
    · rintro σ H2 ⟨z, A2, rfl, W2, s2⟩
      exact k A2 H2 W2 s2
end
end SW
end
section
set_option maxRecDepth 100000
set_option maxHeartbeats 4000000
/-! The drawn stage's invariant. -/
namespace SW
open PySem PySem.Spec PyProof.Rows L2
/-- who is finished was told so -/
def FT (w : Wd) : Prop := ∀ x tl, w.talk x = some tl → tl.g.fin = true → w.told x = true
section
variable {w w' : Wd} {x : Bool} {tl tl' : Tl}
theorem timed_put (h : Timed w) (h1 : w'.talk = put w.talk x (some tl')) (h2 : w'.now = w.now) (hl : tl'.last = w.now) : Timed w' := fun y t e => by
  rw [h1] at e
  rw [h2]
  rcases eq_or_not x y with rfl | rfl
  · rw [put_same] at e; cases e; exact hl
  · rw [put_not] at e; exact h _ _ e
theorem ft_put (h : FT w) (h1 : w'.talk = put w.talk x (some tl')) (h2 : ∀ y, w.told y = true → w'.told y = true) (hf : tl'.g.fin = true → w'.told x = true) : FT w' := fun y t e f => by
  rw [h1] at e
  rcases eq_or_not x y with rfl | rfl
  · rw [put_same] at e; cases e; exact hf f
  · rw [put_not] at e; exact h2 _ (h _ _ e f)
theorem ft_same (h : FT w) (h1 : w'.talk = w.talk) (h2 : w'.told = w.told) : FT w' := fun y t e f => by
  rw [h1] at e
  rw [h2]
  exact h y t e f
theorem heard_fin (tl : Tl) (s : Sg) (n : Nat) : (tl.heard s n).g.fin = tl.g.fin := by
  rcases heard_g tl s n with e | ⟨e, _⟩
  · rw [e]
  · rw [e]
    unfold Gv.heard
    split
    · rfl
    · have := (tl.g.got s.answer (far tl.g.base s.answer) s.room n).count_fields n
      obtain ⟨_, _, _, _, _, _, _, _, h, _⟩ := this
      rw [h]
      rfl
theorem due_told (w : Wd) (x : Bool) : (w.due x).told = w.told ∧ (w.due x).now = w.now ∧ (w.due x).wrote = w.wrote := by
  unfold Wd.due
  split <;> exact ⟨rfl, rfl, rfl⟩
theorem ft_due (h : FT w) (x : Bool) : FT (w.due x) := by
  cases e : w.talk x with
  | none => rw [due_none e]; exact h
  | some tl =>
    rw [due_some e]
    exact ft_put (x := x) h rfl (fun _ q => q) fun f => h x tl e (by rw [← (due_keeps tl w.now).2.2.2.2.1]; exact f)
theorem ft_ticked (h : FT w) (many : Nat) : FT (w.ticked many) := ft_due (ft_due (ft_same (w' := { w with now := w.now + many }) h rfl rfl) false) true
theorem timed_ticked (w : Wd) (many : Nat) : Timed (w.ticked many) := by
  have h1 : ∀ (v : Wd) (x y : Bool) (t : Tl), (v.due x).talk y = some t → y = x → t.last = v.now := fun v x y t e hy => by
    subst hy
    cases e1 : v.talk y with
    | none => rw [due_none e1, e1] at e; cases e
    | some tl =>
      rw [due_some e1] at e
      have e : put v.talk y (some (tl.due v.now)) y = some t := e
      rw [put_same] at e
      cases e
      exact last_due _ _
  have h2 : ∀ (v : Wd) (x : Bool), (v.due x).talk (!x) = v.talk (!x) := fun v x => by
    cases e1 : v.talk x with
    | none => rw [due_none e1]
    | some tl => rw [due_some e1]; exact put_not _ _ _
  intro y t e
  show t.last = ((({ w with now := w.now + many } : Wd).due false).due true).now
  rw [(due_told _ true).2.1]
  cases y with
  | true => exact h1 _ true true t e rfl
  | false =>
    have e : ((({ w with now := w.now + many } : Wd).due false).due true).talk false = some t := e
    have e' := h2 (({ w with now := w.now + many } : Wd).due false) true
    rw [show (!true) = false from rfl] at e'
    rw [e'] at e
    rw [(due_told _ false).2.1]
    exact h1 _ false false t e rfl
theorem ft_come (h : FT w) (x : Bool) (s : Sg) : FT (w.come x s) := by
  cases e : w.talk x with
  | some tl =>
    rw [come_some e]
    exact ft_put (w := w.seen s) (x := x) h rfl (fun _ q => q) fun f => h x tl e (by rw [← heard_fin tl s w.now]; exact f)
  | none =>
    unfold Wd.come
    rw [e]
    dsimp only
    split
    · exact ft_put (w := w.seen s) (x := x) h rfl (fun _ q => q) fun f => by cases f
    · exact h
theorem ft_write (h : FT w) (x : Bool) (d : List Nat) : FT (w.write x d) := by
  cases e : w.talk x with
  | none => rw [write_none e]; exact h
  | some tl =>
    rw [write_some e]
    refine ft_put (x := x) h rfl (fun _ q => q) fun f => h x tl e ?_
    unfold Tl.write at f
    split at f <;> exact f
theorem timed_write (h : Timed w) (x : Bool) (d : List Nat) : Timed (w.write x d) := by
  cases e : w.talk x with
  | none => rw [write_none e]; exact h
  | some tl =>
    rw [write_some e]
    refine timed_put (x := x) h rfl rfl ?_
    rw [← h x tl e]
    unfold Tl.write
    split <;> rfl
theorem ft_read (h : FT w) (x : Bool) (n : Nat) : FT (w.read x n) := by
  cases e : w.talk x with
  | none => rw [read_none e]; exact h
  | some tl =>
    rw [read_some e]
    exact ft_put (x := x) h rfl (fun _ q => q) fun f => h x tl e f
theorem timed_read (h : Timed w) (x : Bool) (n : Nat) : Timed (w.read x n) := by
  cases e : w.talk x with
  | none => rw [read_none e]; exact h
  | some tl =>
    rw [read_some e]
    exact timed_put (x := x) h rfl rfl (h x tl e)
theorem ft_finish (h : FT w) (x : Bool) : FT ((w.finish x).tell x) := by
  have ht : ∀ (v : Wd) (y : Bool), v.told y = true → (v.tell x).told y = true := fun v y q => by
    show put v.told x true y = true
    rcases eq_or_not x y with rfl | rfl
    · exact put_same _ _ _
    · rw [put_not]; exact q
  cases e : w.talk x with
  | none =>
    rw [finish_none e]
    exact fun y t e f => ht w y (h y t e f)
  | some tl =>
    rw [finish_some e]
    exact ft_put (w := w) (x := x) h rfl (fun y q => ht w y q) fun _ => put_same _ _ _
theorem timed_finish (h : Timed w) (x : Bool) : Timed (w.finish x) := by
  cases e : w.talk x with
  | none => rw [finish_none e]; exact h
  | some tl =>
    rw [finish_some e]
    refine timed_put (x := x) h rfl rfl ?_
    rw [← h x tl e]
    unfold Tl.finish
    split <;> rfl
theorem timed_tell (h : Timed w) (x : Bool) : Timed (w.tell x) := h
theorem ft_cut (h : FT w) (x : Bool) : FT (w.cut x) := by
  cases e : w.talk x with
  | none => rw [cut_none e]; exact h
  | some tl =>
    rw [cut_some e]
    refine ft_put (w := { w with cuts := true }) (x := x) h rfl (fun _ q => q) fun f => h x tl e ?_
    unfold Tl.cut at f
    split at f <;> exact f
theorem timed_cut (h : Timed w) (x : Bool) : Timed (w.cut x) := by
  cases e : w.talk x with
  | none => rw [cut_none e]; exact h
  | some tl =>
    rw [cut_some e]
    refine timed_put (w := { w with cuts := true }) (x := x) h rfl rfl ?_
    show _ = w.now
    rw [← h x tl e]
    unfold Tl.cut
    split <;> rfl
theorem full_strm (wr : List Nat) : full (strm wr false) = wr.length := by
  have e : strm wr false = [.o] ++ wr.map .b := by unfold strm tl_; simp
  rw [e, full_append, full_map]
  show 0 + _ = _
  omega
/-- all is taken where none finished or cut -/
theorem many_all (I : WInv w) (h : FT w) {d : List Nat} (e : w.talk x = some tl) (h1 : w.told x = false) (h2 : w.cuts = false) (h3 : (w.wrote x).length + d.length ≤ 512) (h4 : w.now ≤ 800) : tl.many d = d.length := by
  have hT := T_some e
  have ok := I.pair.ok x
  have g := I.pair.g x
  rw [hT] at ok g
  have hf : tl.g.fin = false := by
    cases q : tl.g.fin with
    | false => rfl
    | true => have := h x tl e q; rw [h1] at this; cases this
  have ho : tl.isOver = false := by
    have hr : tl.rested = none := Classical.byContradiction fun q => by
      have := (ok.rs.mp q).1
      rw [ok.fin, hf] at this
      cases this
    have h5 : tl.ending = .no := by
      cases q : tl.ending with
      | no => rfl
      | cut => have := ok.cut q; rw [h2] at this; cases this
      | gone => have := ok.gone q; omega
    have hs : tl.stand ≠ .cut ∧ tl.stand ≠ .gone ∧ tl.stand ≠ .closed := by
      unfold Tl.stand
      rw [h5, hr]
      simp only
      refine ⟨?_, ?_, ?_⟩ <;> (split <;> (try split) <;> (try split) <;> simp)
    unfold Tl.isOver
    rw [decide_eq_false hs.1, decide_eq_false hs.2.1, decide_eq_false hs.2.2]
    rfl
  have hk : full tl.g.kept ≤ (w.wrote x).length := by
    rw [g.kept, hf]
    have := full_drop (strm (w.wrote x) false) tl.g.passed
    rw [full_strm] at this
    exact this
  unfold Tl.many Gv.many
  rw [ho, hf]
  simp only [Bool.false_eq_true, if_false]
  omega
theorem many_le (tl : Tl) (d : List Nat) : tl.many d ≤ d.length := by
  unfold Tl.many Gv.many
  split
  · exact Nat.zero_le _
  · split <;> omega
end
/-- behind n deeds -/
structure LInv (n : Nat) (w : Wd) : Prop where
  good : WGood w
  timed : Timed w
  len : w.len (12002 * n + 10)
  wl : ∀ x, (w.wrote x).length ≤ 60 * n
  ft : FT w
section
variable {w w' : Wd} {n : Nat}
theorem LInv.next (L : LInv n w) : LInv (n + 1) w := ⟨L.good, L.timed, L.len.mono (by omega), fun x => Nat.le_trans (L.wl x) (by omega), L.ft⟩
theorem LInv.ticked (L : LInv n w) (many : Nat) : LInv (n + 1) (w.ticked many) := by
  refine ⟨L.good.ticked many, timed_ticked _ _, (len_ticked L.good.inv L.len many).mono (by omega), fun x => ?_, ft_ticked L.ft many⟩
  show ((((({ w with now := w.now + many } : Wd).due false).due true).wrote) x).length ≤ _
  rw [(due_told _ true).2.2, (due_told _ false).2.2]
  exact Nat.le_trans (L.wl x) (by omega)
theorem LInv.rd (L : LInv n w) {x : Bool} {r : List Sg} (hr : ∀ q ∈ r, q ∈ w.road x) (hl : r.length ≤ (w.road x).length) : LInv n (w.rd x r) := by
  refine ⟨L.good.rd hr, L.timed, fun y => ?_, L.wl, L.ft⟩
  show (put w.road x r y).length ≤ _
  have := L.len x
  rcases eq_or_not x y with rfl | rfl
  · rw [put_same]; omega
  · rw [put_not]; exact L.len _
theorem LInv.come (L : LInv n w) {x : Bool} {s : Sg} {r : List Sg} (hs : s ∈ w.road x) (hr : ∀ q ∈ r, q ∈ w.road x) (hl : r.length ≤ (w.road x).length) : LInv (n + 1) ((w.rd x r).come x s) := by
  have L1 := L.rd hr hl
  refine ⟨L.good.come hs hr, timed_come L.good.inv L.timed x s _, (len_come L1.len x s).mono (by omega), fun y => ?_, ft_come L1.ft x s⟩
  rw [(come_now (w.rd x r) x s).2.2.1]
  exact Nat.le_trans (L.wl y) (by omega)
theorem LInv.write (L : LInv n w) (hn : n ≤ 70) (x : Bool) {d : List Nat} (hd : d.length ≤ 60) (hb : ∀ m ∈ d, m < 256) : LInv (n + 1) (w.write x d) := by
  have h1 := L.wl x
  refine ⟨L.good.write x (by omega) hb, timed_write L.timed x d, ?_, fun y => ?_, ft_write L.ft x d⟩
  · have : (w.write x d).road = w.road := by unfold Wd.write; split <;> rfl
    intro y
    rw [this]
    exact Nat.le_trans (L.len y) (by omega)
  · cases e : w.talk x with
    | none => rw [write_none e]; exact Nat.le_trans (L.wl y) (by omega)
    | some tl =>
      rw [write_some e]
      show (put w.wrote x (w.wrote x ++ d.take (tl.many d)) y).length ≤ _
      rcases eq_or_not x y with rfl | rfl
      · rw [put_same, List.length_append, List.length_take]; omega
      · rw [put_not]; exact Nat.le_trans (L.wl _) (by omega)
theorem LInv.read (L : LInv n w) (x : Bool) (m : Nat) : LInv (n + 1) (w.read x m) := by
  obtain ⟨a1, a2, a3, a4, _⟩ := read_rest w x m
  exact ⟨L.good.read x m, timed_read L.timed x m, fun y => by rw [a1]; exact Nat.le_trans (L.len y) (by omega), fun y => by rw [a4]; exact Nat.le_trans (L.wl y) (by omega), ft_read L.ft x m⟩
theorem LInv.finish (L : LInv n w) (x : Bool) : LInv (n + 1) ((w.finish x).tell x) := by
  obtain ⟨a1, a2, a3, a4, _⟩ := finish_rest w x
  exact ⟨(L.good.finish x).tell x, timed_tell (timed_finish L.timed x) x, fun y => by show ((w.finish x).road y).length ≤ _; rw [a1]; exact Nat.le_trans (L.len y) (by omega), fun y => by show ((w.finish x).wrote y).length ≤ _; rw [a4]; exact Nat.le_trans (L.wl y) (by omega), ft_finish L.ft x⟩
theorem LInv.cut (L : LInv n w) (x : Bool) : LInv (n + 1) (w.cut x) := by
  refine ⟨L.good.cut x, timed_cut L.timed x, (len_cut L.len x).mono (by omega), fun y => ?_, ft_cut L.ft x⟩
  have : (w.cut x).wrote = w.wrote := by unfold Wd.cut; split <;> rfl
  rw [this]
  exact Nat.le_trans (L.wl y) (by omega)
end
end SW
end
section
set_option maxRecDepth 100000
set_option maxHeartbeats 4000000
/-! The law: a drawn road. -/
namespace SW
open PySem PySem.Spec PyProof.Rows L2
/-- what changed: a draw, the world's own, or new -/
structure WStpB (b : Addr) (H H' : Hp) (A : Wa) (w : Wd) (A' : Wa) (w' : Wd) : Prop where
  aw : A'.aw = A.aw
  kn : ∀ z ∈ A'.mut w', z ∈ A.mut w ∨ H z = none
  fr : Fr (b :: A.mut w) H H'
theorem WStpB.of {b : Addr} {H H1 H2 : Hp} {A A' : Wa} {w w' : Wd} (f : Fr [b] H H1) (h : H1 b ≠ none) (s : WStp H1 H2 A w A' w') : WStpB b H H2 A w A' w' := by
  refine ⟨s.aw, fun z hz => ?_, ?_⟩
  · rcases s.kn z hz with q | q
    · exact .inl q
    · rcases f.free q with q2 | q2
      · exact .inr q2
      · exact absurd q (by rw [List.mem_singleton.mp q2]; exact h)
  · exact (f.mono (by simp)).trans (s.fr.mono fun z hz => List.mem_cons_of_mem _ hz)
theorem D3.ne {H : Hp} {b : Addr} (h : D3 H b) : H b ≠ none := by
  obtain ⟨x, y, z, h⟩ := h
  rw [h]
  exact fun q => nomatch q
theorem D3.same {H H' : Hp} {b : Addr} (h : D3 H b) (s : Same H H') : D3 H' b := by
  obtain ⟨x, y, z, h⟩ := h
  exact ⟨x, y, z, s _ _ h⟩
theorem WorldAt.drawn {K : PySem.W.Frag} {H H1 : Hp} {A : Wa} {w : Wd} {b : Addr} (W : WorldAt K H A w) (hb : b ∉ A.mut w) (hd : D3 H b) (f : Fr [b] H H1) : WorldAt K H1 A w := by
  obtain ⟨x, y, z, h⟩ := hd
  refine W.lists f (fun c hc => .inl (by rw [List.mem_singleton.mp hc]; exact hb)) (fun c hc => ⟨[.int x, .int y, .int z], by rw [List.mem_singleton.mp hc]; exact h⟩) (f _ _ W.ro fun q => hb ?_)
  rw [← List.mem_singleton.mp q]
  exact Wa.mut_ls (by simp [Wa.ls])
section
variable {K : PySem.W.Frag} {σ : L2.St} {H : Hp} {ta : TE} {a : Addr} {xs : List V} {c : TT} {b : Bool} {t1 u2 : TS} {D : Ends}
theorem anss_eqR (ha : Val ta σ H (.ref a)) (h : H a = some (.lst xs)) : AnsS (tTest (tOp (rEqR K) ta (tLst tNil))) σ H (decide (xs = [])) := fun Q q => ha _ (ta_nil ⟨by show 0 ≤ sizeLine; decide, fun p hp => ⟨a, p, xs, rfl, rfl, SqL.of (upd_at h hp), SqL.of upd_same, ⟨_, rfl, q _ (Same.new hp)⟩⟩⟩)
theorem sq_ifS (h : AnsS c σ H b) (h1 : ∀ H', Same H H' → b = true → t1 { D with nx := u2 D } σ H') (h2 : ∀ H', Same H H' → b = false → u2 D σ H') : tSeq (tIfS c t1 tNext) u2 D σ H := h _ fun H' s => by
  cases b with
  | true => exact iteT (h1 H' s rfl)
  | false => exact iteF (h2 H' s rfl)
theorem atI_nat {n : Nat} (h : n < xs.length) : atI xs (n : Int) = some xs[n] := by
  unfold atI ixN
  rw [if_pos (by omega), if_pos (by omega)]
  show xs[((n : Int)).toNat]? = _
  rw [Int.toNat_natCast, List.getElem?_eq_getElem h]
/-- l[a:] -/
theorem slL_drop {k : Nat} {Q : VK} (h : H a = some (.lst xs)) (q : ∀ p, H p = none → Q (.ref p) (upd H p (.lst (xs.drop k)))) : rSlL K (.ref a) (some (k : Int)) none H Q := sl_l h fun p hp => by rw [cut_drop]; exact q p hp
theorem slL_take {k : Nat} {Q : VK} (h : H a = some (.lst xs)) (q : ∀ p, H p = none → Q (.ref p) (upd H p (.lst (xs.take k)))) : rSlL K (.ref a) none (some (k : Int)) H Q := sl_l h fun p hp => by rw [cut_take]; exact q p hp
end
theorem dec_nat (n m : Nat) : (!decide (V.int (n : Nat) = V.int (m : Nat))) = !decide (n = m) := by
  congr 1
  exact decide_eq_decide.mpr ⟨fun e => Int.ofNat.inj (V.int.inj e), fun e => by rw [e]⟩
theorem eI_of {n : Nat} (h : n < 2) : ∃ x : Bool, ((n : Nat) : Int) = eI x := by
  match n, h with
  | 0, _ => exact ⟨false, rfl⟩
  | 1, _ => exact ⟨true, rfl⟩
def spRoad (K : PySem.W.Frag) : Sp := fun vs H Q _ => ∃ (A : Wa) (w : Wd) (b : Addr) (n : Nat), vs = [.ref A.aw, .ref b] ∧ WorldAt K H A w ∧ LInv n w ∧ n ≤ 70 ∧ D3 H b ∧ b ∉ A.mut w ∧
  ∀ A' w' H', WorldAt K H' A' w' → LInv (n + 1) w' → WStpB b H H' A w A' w' → Q .non H'
section
variable {P : Program} {w : World} {K : PySem.W.Frag} {mg : Str → Option Value} {base : Heap}
theorem ok_L_road (S : Says K mg) (F_L_next : Fn P w K mg base 2 "_law_next" ["_law_draw_here", "_law_size"] spNext) (F_L_come : Fn P w K mg base 8 "_law_come" ["_law_world", "_law_end", "_law_segment"] (spCome K)) : Fn P w K mg base 9 "_law_road" ["_law_world", "_law_draw_here"] (spRoad K) := by
  obtain ⟨fd, F⟩ := S.u_L_road
  have sc : FnScope ["_law_world", "_law_draw_here", "_law_end", "_law_road_here", "_law_at", "_law_kind", "_law_segment"] ["_law_world", "_law_draw_here"] (defScope s_L_road) := ⟨rfl, rfl, rfl, by decide +kernel, rfl, by decide +kernel, by decide +kernel⟩
  refine ⟨⟨fd, F.ok sc (fun vs H Q E h => ?_) (fun cdv A outer s H vs Q E hr h => ⟨_, PSs.nox (pss_cons (ps_set (i := 2) sc.nd rfl (Or.inl rfl) (pe_fn F_L_next (hr.mono (by decide)) (pa_cons (pv 1) (pa_cons pe_int pa_nil))))
      (pss_cons (ps_set (i := 3) sc.nd rfl (Or.inl rfl) (pe_ix ix_list (pe_dget (hu_of hr) (pv 0) pe_str (fun _ _ => rfl)) (pv 2) (fun _ _ => rfl)))
      (pss_cons (ps_if (pt_cmpR (op_eqR hr) (pv 3) (pe_lst pa_nil) (nomark _)) (pss_one ps_retN) pss_nil)
      (pss_cons (ps_set (i := 4) sc.nd rfl (Or.inl rfl) (pe_fn F_L_next (hr.mono (by decide)) (pa_cons (pv 1) (pa_cons (pe_callB call_len rfl S.f_len boot_len (pa_cons (pv 3) pa_nil)) pa_nil))))
      (pss_cons (ps_set (i := 5) sc.nd rfl (Or.inl rfl) (pe_fn F_L_next (hr.mono (by decide)) (pa_cons (pv 1) (pa_cons pe_int pa_nil))))
      (pss_cons (ps_set (i := 6) sc.nd rfl (Or.inl rfl) (pe_ix ix_list (pv 3) (pv 4) (fun _ _ => rfl)))
      (pss_cons (ps_if (pt_cmpR op_ne (pv 5) pe_int (nomark _)) (pss_one (ps_asg (pe_op op_cat (pe_slice sl_list (pv 3) po_none (po_some (pv 4))) (pe_slice sl_list (pv 3) (po_some (pe_op op_add (pv 4) pe_int)) po_none)) (pg_sub (pe_dget (hu_of hr) (pv 0) pe_str (fun _ _ => rfl)) (pv 2) set_list))) pss_nil)
      (pss_one (ps_if (pt_cmpR op_ne (pv 5) pe_int (nomark _)) (pss_one (ps_expr (pe_fn F_L_come (hr.mono (by decide)) (pa_cons (pv 0) (pa_cons (pv 2) (pa_cons (pv 6) pa_nil)))))) pss_nil))))))))), ?_⟩), F.bindsN (fun _ _ _ _ _ _ us hl => match us, hl with | [_, _], _ => rfl)⟩, F.kp, S.g__law_road⟩
  · obtain ⟨_, _, _, _, rfl, _⟩ := h
    rfl
  · obtain ⟨A, w, b, n, rfl, W, L, hn, hd, hb, k⟩ := h
    refine sq_as (ex_fn (arg_cons (val_var rfl) (arg_cons (val_c (v := .int (2 : Nat))) arg_nil)) ⟨b, 2, rfl, hd, by decide, by decide, fun e H1 he F1 hd1 => ?_⟩)
    have W1 := W.drawn hb hd F1
    obtain ⟨x, ex⟩ := eI_of he
    rw [ex]
    clear ex he e
    obtain ⟨xs, hx, ox⟩ := W1.rd x
    refine sq_av (val_ix (val_dget (k := .inr "roads") (val_var rfl) val_c W1.dic rfl wd_roads) (val_var rfl) W1.ro (at_pair (fun y => V.ref (A.r y)) x)) ?_
    refine sq_ifS (anss_eqR (val_var rfl) hx) (fun H2 s2 hb2 => ?_) (fun H2 s2 hb2 => ?_)
    · exact k A w H2 (W1.same s2) L.next (WStpB.of F1 hd1.ne (WStp.same s2))
    have hne : xs ≠ [] := of_decide_eq_false hb2
    have hlen : 0 < xs.length := List.length_pos_iff.mpr hne
    have hxl : xs.length = (w.road x).length := ox.1
    have hbig := L.len x
    refine sq_as (ex_fn (arg_cons (val_var rfl) (arg_cons (val_len_lst (val_var rfl) (SqL.of (s2 _ _ hx))) arg_nil)) ⟨b, xs.length, rfl, hd1.same s2, by omega, by omega, fun at_ H3 hat F3 hd3 => ?_⟩)
    have W3 := (W1.same s2).drawn hb (hd1.same s2) F3
    refine sq_as (ex_fn (arg_cons (val_var rfl) (arg_cons (val_c (v := .int (6 : Nat))) arg_nil)) ⟨b, 6, rfl, hd3, by decide, by decide, fun kind H4 hkind F4 hd4 => ?_⟩)
    have W4 := W3.drawn hb hd3 F4
    have F14 : Fr [b] H H4 := ((F1.trans (Fr.same s2)).trans F3).trans F4
    clear W1 W3 ox
    have hxne : A.r x ≠ b := fun q => hb (by rw [← q]; exact Wa.mut_ls (by cases x <;> simp [Wa.ls]))
    have hx4 : H4 (A.r x) = some (.lst xs) := F4 _ _ (F3 _ _ (s2 _ _ hx) (by simp [hxne])) (by simp [hxne])
    obtain ⟨xs', hx', ox⟩ := W4.rd x
    obtain rfl : xs = xs' := by rw [hx4] at hx'; injection hx' with e; injection e
    obtain ⟨s, hs, sat⟩ := ox.2 at_ _ (List.getElem?_eq_getElem hat)
    have hsm : s ∈ w.road x := List.mem_of_getElem? hs
    obtain ⟨sa, su, es, U⟩ := sat
    refine sq_av (val_to (val_ix (val_var rfl) (val_var rfl) hx4 (atI_nat hat)) es) ?_
    have last : ∀ (A2 : Wa) (r : List Sg) (H5 : Hp), WorldAt K H5 A2 (w.rd x r) → (∀ q ∈ r, q ∈ w.road x) → r.length ≤ (w.road x).length → SegU K H5 sa su s → WStp H4 H5 A w A2 (w.rd x r) →
        tIfS (tTest (tOp rNe (tVar 5) (tC (.int 1)))) (tDrop (tCall (spCome K) [] E0 (tCons (tVar 0) (tCons (tVar 2) (tCons (tVar 6) tNil))))) tNext { nx := fun _ H' => Q .non H', rt := Q } [some (V.ref A.aw), some (V.ref b), some (V.int (eI x)), some (V.ref (A.r x)), some (V.int at_), some (V.int kind), some (V.ref sa)] H5 := fun A2 r H5 W5 hr hrl U5 s5 => by
      refine st_if (b := !decide (kind = 1)) (ans_neS (val_var rfl) val_c rfl (dec_nat kind 1)) (fun _ => ?_) (fun _ => ?_)
      · have ea : A2.aw = A.aw := s5.aw
        rw [← ea]
        have L5 := L.rd hr hrl
        refine st_dr (ex_fn (arg_cons (val_var rfl) (arg_cons (val_var rfl) (arg_cons (val_var rfl) arg_nil))) ⟨A2, w, x, r, sa, su, s, rfl, W5, L.good, hsm, U5, L5.len.mono (by omega), fun A6 H6 W6 s6 => ?_⟩)
        exact k A6 _ H6 W6 (L.come hsm hr hrl) (WStpB.of F14 hd4.ne (s5.trans s6))
      · exact st_next (k A2 _ H5 W5 (L.rd hr hrl).next (WStpB.of F14 hd4.ne s5))
    refine sq_if (b := !decide (kind = 0)) (ans_neS (val_var rfl) val_c rfl (dec_nat kind 0)) (fun _ => ?_) (fun _ => ?_)
    · refine st_tup (ex_ope (slt_e (val_var rfl) (po_n (po_v (val_var rfl) (slL_take hx4 fun p1 hp1 => slt_e (val_var rfl) (po_v (n := ((at_ + 1 : Nat) : Int)) (val_to (val_add (val_var rfl) val_c) (congrArg V.int (Int.natCast_add _ _).symm)) (po_n (slL_drop (upd_at hx4 hp1) fun p2 hp2 => ?_))))))))
      refine ⟨p1, p2, _, _, rfl, rfl, upd_at upd_same hp2, upd_same, ?_, fun p hp => ?_⟩
      · rw [List.length_take, List.length_drop, sizeLine_eq]; omega
      have s5 := ((Same.new (o := .lst (xs.take at_)) hp1).trans (Same.new (o := .lst (xs.drop (at_ + 1))) hp2)).trans (Same.new (o := .lst (xs.take at_ ++ xs.drop (at_ + 1))) hp)
      have W5 := W4.same s5
      have hpm : p ∉ A.mut w := W4.nfree (((Same.new (o := .lst (xs.take at_)) hp1).trans (Same.new (o := .lst (xs.drop (at_ + 1))) hp2)).free hp)
      have O5 : OutAt K (upd (upd (upd H4 p1 (.lst (xs.take at_))) p2 (.lst (xs.drop (at_ + 1)))) p (.lst (xs.take at_ ++ xs.drop (at_ + 1)))) p ((w.road x).eraseIdx at_) := by
        have oe := ox.eraseIdx at_
        rw [List.eraseIdx_eq_take_drop_succ xs] at oe
        exact ⟨_, upd_same, oe.mono fun y q z => z.same s5⟩
      have W6 := W5.road x hpm O5
      refine (val_dget (k := .inr "roads") (val_var rfl) val_c W5.dic rfl wd_roads) _ (val_var (i := 2) rfl _ ⟨A.lr, _, _, _, rfl, rfl, W5.ro, ix_pair _ _ x, ?_⟩)
      rw [set_pair (fun y => V.ref (A.r y)) x (.ref p)]
      have e2 : ∀ y, put (fun y => V.ref (A.r y)) x (.ref p) y = V.ref (put A.r x p y) := fun y => by unfold put; split <;> rfl
      rw [e2, e2]
      refine last _ _ _ W6 (fun q hq => List.mem_of_mem_eraseIdx hq) (by rw [List.length_eraseIdx]; split <;> omega) ((U.same s5).fr (Fr.up (a := A.lr)) (by simpa using (U.same s5).ob.lst W5.ro) (by simpa using fun q => by have := (U.same s5).da; rw [q, W5.ro] at this; cases this)) ?_
      exact WStp.road (F := [A.lr]) ((Fr.same s5).trans Fr.up) (by intro z hz; rw [List.mem_singleton.mp hz]; exact Wa.mut_ls (by simp [Wa.ls])) (((Same.new (o := .lst (xs.take at_)) hp1).trans (Same.new (o := .lst (xs.drop (at_ + 1))) hp2)).free hp)
    · have e := last A (w.road x) H4 (by rw [rd_self]; exact W4) (fun q hq => hq) (Nat.le_refl _) U (by rw [rd_self]; exact WStp.refl _ _ _)
      exact e
end
end SW
end
section
set_option maxRecDepth 100000
set_option maxHeartbeats 4000000
/-! The law: an end's own deeds. -/
namespace SW
open PySem PySem.Spec PyProof.Rows L2
theorem ans_or2 {σ : L2.St} {H : Hp} {t u : TT} {b1 b2 : Bool} (h1 : Ans t σ H b1) (h2 : Ans u σ H b2) : Ans (tOr t u) σ H (b1 || b2) := fun Q q => h1 _ (by
  cases b1 with
  | true => exact iteT q
  | false => exact iteF (h2 _ q))
theorem sq_noE {σ : L2.St} {H : Hp} {c : TT} {t1 t2 u : TS} {D : Ends} (h : Ans c σ H false) (q : t2 { D with nx := u D } σ H) : tSeq (tIfS c t1 t2) u D σ H := h _ (iteF q)
theorem WorldAt.talk0 {K : PySem.W.Frag} {H H' : Hp} {A : Wa} {w : Wd} {x : Bool} {tl tl' : Tl} (W : WorldAt K H A w) (e : w.talk x = some tl) (st : Stp H H' (A.a x) (A.n x) (A.n x)) (T : TalkAt K H' (A.a x) (A.n x) tl') : WorldAt K H' A { w with talk := put w.talk x (some tl') } := by
  have h := W.talk e st T
  rw [put_self] at h
  exact h
theorem WStp.talk0 {H H' : Hp} {A : Wa} {w : Wd} {x : Bool} {tl tl' : Tl} (e : w.talk x = some tl) (st : Stp H H' (A.a x) (A.n x) (A.n x)) : WStp H H' A w A { w with talk := put w.talk x (some tl') } := by
  have h := WStp.talk (A := A) (tl' := tl') e st
  rw [put_self] at h
  exact h
theorem val_chain0 {σ : L2.St} {H : Hp} {ta tb tc : TE} {n m : Nat} (ha : Val ta σ H (.int 0)) (hb : Val tb σ H (.int n)) (hc : Val tc σ H (.int m)) (h : n ≤ m) : Val (tChain (rI0 fun i j => V.bl (decide (i ≤ j))) (rI0 fun i j => V.bl (decide (i ≤ j))) ta tb tc) σ H (.bl true) :=
  val_chain ha hb hc (b1 := true) (b2 := true) (congrArg V.bl (decide_eq_true (by omega))) (congrArg V.bl (decide_eq_true (by omega))) rfl
def spWrote (K : PySem.W.Frag) : Sp := fun vs H Q _ => ∃ (A : Wa) (w : Wd) (x : Bool) (d : Addr) (ns : List Nat) (tl : Tl), vs = [.ref A.aw, .int (eI x), .ref d] ∧ WorldAt K H A w ∧ WGood w ∧ FT w ∧ w.talk x = some tl ∧ H d = some (.tup (ns.map nV)) ∧ ns.length ≤ 60 ∧ (∀ n ∈ ns, n < 256) ∧ (w.wrote x).length ≤ 4900 ∧
  ∀ A' H', WorldAt K H' A' (w.write x ns) → WStp H H' A w A' (w.write x ns) → Q (.bl true) H'
def spOwn (K : PySem.W.Frag) : Sp := fun vs H Q _ => ∃ (A : Wa) (w : Wd) (b : Addr) (n : Nat), vs = [.ref A.aw, .ref b] ∧ WorldAt K H A w ∧ LInv n w ∧ n ≤ 70 ∧ D3 H b ∧ b ∉ A.mut w ∧
  ∀ A' w' H', WorldAt K H' A' w' → LInv (n + 1) w' → WStpB b H H' A w A' w' → Q (.bl true) H'
section
variable {P : Program} {w : World} {K : PySem.W.Frag} {mg : Str → Option Value} {base : Heap}
theorem ok_L_wrote (S : Says K mg) (F_Talk_write : Mt P w K mg base 5 "Talk" "write" ["self", "data"] (spKWrite K)) : Fn P w K mg base 6 "_law_wrote" ["_law_world", "_law_end", "_law_data"] (spWrote K) := by
  obtain ⟨fd, F⟩ := S.u_L_wrote
  have sc : FnScope ["_law_world", "_law_end", "_law_data", "_law_many", "_law_size"] ["_law_world", "_law_end", "_law_data"] (defScope s_L_wrote) := ⟨rfl, rfl, rfl, by decide +kernel, rfl, by decide +kernel, by decide +kernel⟩
  refine ⟨⟨fd, F.ok sc (fun vs H Q E h => ?_) (fun cdv A outer s H vs Q E hr h => ⟨_, PSs.nox (pss_cons (ps_set (i := 3) sc.nd rfl (Or.inl rfl) (pe_mt (pe_ix ix_list (pe_dget (hu_of hr) (pv 0) pe_str (fun _ _ => rfl)) (pv 1) (fun _ _ => rfl)) F_Talk_write (hr.mono (by decide)) (pa_cons (pv 2) pa_nil)))
      (pss_cons (ps_set (i := 4) sc.nd rfl (Or.inl rfl) (pe_op op_add (pe_callB call_len rfl S.f_len boot_len (pa_cons (pe_ix ix_list (pe_dget (hu_of hr) (pv 0) pe_str (fun _ _ => rfl)) (pv 1) (fun _ _ => rfl)) pa_nil)) (pe_callB call_len rfl S.f_len boot_len (pa_cons (pv 2) pa_nil))))
      (pss_cons (ps_asg (pe_op op_catA (pe_ix ix_list (pe_dget (hu_of hr) (pv 0) pe_str (fun _ _ => rfl)) (pv 1) (fun _ _ => rfl)) (pe_slice sl_tupA (pv 2) po_none (po_some (pv 3)))) (pg_sub (pe_dget (hu_of hr) (pv 0) pe_str (fun _ _ => rfl)) (pv 1) set_list))
      (pss_cons (ps_if (PW.pt (pw_or (pt_val (pe_ix ix_list (pe_dget (hu_of hr) (pv 0) pe_str (fun _ _ => rfl)) (pv 1) (fun _ _ => rfl))) (pw_or (pt_val (pe_dget (hu_of hr) (pv 0) pe_str (fun _ _ => rfl))) (pw_or (pt_cmpR op_gt (pv 4) pe_int (nomark _)) (pw_or1 (pt_cmpR op_gt (pe_dget (hu_of hr) (pv 0) pe_str (fun _ _ => rfl)) pe_int (nomark _))))))) (pss_one (ps_ret (pe_chain op_le op_le pe_int (pv 3) (pe_callB call_len rfl S.f_len boot_len (pa_cons (pv 2) pa_nil))))) pss_nil)
      (pss_one (ps_ret (pe_cmpR op_eq (pv 3) (pe_callB call_len rfl S.f_len boot_len (pa_cons (pv 2) pa_nil)) (nomark _)))))))), ?_⟩), F.bindsN (fun _ _ _ _ _ _ us hl => match us, hl with | [_, _, _], _ => rfl)⟩, F.kp, S.g__law_wrote⟩
  · obtain ⟨_, _, _, _, _, _, rfl, _⟩ := h
    rfl
  · obtain ⟨A, w, x, d, ns, tl, rfl, W, G, hft, e, hd, hl, h256, hwl, k⟩ := h
    obtain ⟨v, hv, tv⟩ := W.tv
    have hvx : v x = .ref (A.a x) := by have := tv x; rw [e] at this; exact this.1
    have T : TalkAt K H (A.a x) (A.n x) tl := by have := tv x; rw [e] at this; exact this.2
    obtain ⟨fit, f2, f3, f4, f5, f6, f7, f8⟩ := G.inv.fit e
    obtain ⟨t1, KT⟩ := id T
    refine sq_as (ex_mt (val_to (val_ix (val_dget (k := .inr "talks") (val_var rfl) val_c W.dic rfl wd_talks) (val_var rfl) hv (at_pair v x)) hvx) KT.ob (by kernel_rfl) (arg_cons (val_var rfl) arg_nil) ⟨A.a x, d, A.n x, tl, ns, rfl, T, fit.ok, hd, by omega, h256, f6, f5, fun H1 T1 st1 => ?_⟩)
    have W1 := W.talk0 e st1 T1
    have s1 := WStp.talk0 (A := A) (tl' := tl.write ns) e st1
    have hd1 : H1 d = some (.tup (ns.map nV)) := st1.fr _ _ hd fun q => T.nt.1 d q _ hd
    have vw : ∀ (σ : L2.St), σ[0]? = some (some (.ref A.aw)) → σ[1]? = some (some (.int (eI x))) → Val (tOp (rIxL K) (tDGet (tVar 0) (tC (.str "wrote"))) (tVar 1)) σ H1 (.ref (A.w x)) := fun σ h0 h1 => val_ix (val_dget (k := .inr "wrote") (val_var h0) val_c W1.dic rfl wd_wrote) (val_var h1) W1.wr (at_pair (fun y => V.ref (A.w y)) x)
    refine sq_av (v := .int (((w.wrote x).length + ns.length : Nat) : Int)) (val_to (val_add (val_len_tup (vw _ rfl rfl) (SqT.of (W1.wt x))) (val_len_tup (val_var rfl) (SqT.of hd1))) ?_) ?_
    · rw [List.length_map, List.length_map, Int.natCast_add]
    refine sq_tup (ex_op1 (vw _ rfl rfl) (slt_e (val_var rfl) (po_n (po_v (n := ((tl.many ns : Nat) : Int)) (val_var rfl) (sl_take hd1 fun b H2 s2 hb => ?_)))))
    refine cat_t (s2 _ _ (W1.wt x)) hb (by rw [List.length_take, List.length_map, List.length_map, sizeLine_eq]; show (w.wrote x).length + _ ≤ _; omega) fun p H3 s3 hp => ?_
    have s23 := s2.trans s3
    have W3 := W1.same s23
    have hp : H3 p = some (.tup ((w.wrote x ++ ns.take (tl.many ns)).map nV)) := by rw [hp, List.map_append, List.map_take]
    have W4 := W3.wset x hp
    refine (val_dget (k := .inr "wrote") (val_var rfl) val_c W3.dic rfl wd_wrote) _ (val_var (i := 1) rfl _ ⟨A.lw, _, _, _, rfl, rfl, W3.wr, ix_pair _ _ x, ?_⟩)
    rw [set_pair (fun y => V.ref (A.w y)) x (.ref p)]
    have e2 : ∀ y, put (fun y => V.ref (A.w y)) x (.ref p) y = V.ref (put A.w x p y) := fun y => by unfold put; split <;> rfl
    rw [e2, e2]
    rw [write_some e] at k
    have hd4 : (upd H3 A.lw (.lst [.ref (put A.w x p false), .ref (put A.w x p true)])) d = some (.tup (ns.map nV)) := by rw [upd_ne (fun q => by rw [q] at hd1; have h1 := W1.wr; rw [hd1] at h1; cases h1)]; exact s23 _ _ hd1
    have s4 : WStp H (upd H3 A.lw (.lst [.ref (put A.w x p false), .ref (put A.w x p true)])) A w { A with w := put A.w x p } { w with talk := put w.talk x (some (tl.write ns)), wrote := put w.wrote x (w.wrote x ++ ns.take (tl.many ns)) } :=
      (s1.trans (WStp.same s23)).trans (WStp.of_fr (F := [A.lw]) Fr.up (by simp [Wa.ls]))
    have k := k _ _ W4 s4
    obtain ⟨H4, eH⟩ : ∃ H4, H4 = upd H3 A.lw (.lst [.ref (put A.w x p false), .ref (put A.w x p true)]) := ⟨_, rfl⟩
    rw [← eH] at k W4 hd4 ⊢
    have vl : ∀ (σ : L2.St), σ[2]? = some (some (.ref d)) → Val (tCB (fun xs H Q => ∃ x n, xs = [x] ∧ LenV K x H n ∧ Q (.int n) H) (tCons (tVar 2) tNil)) σ H4 (.int (ns.length : Nat)) := fun σ h => by
      have := val_len_tup (K := K) (σ := σ) (val_var h) (SqT.of hd4)
      rw [List.length_map] at this
      exact this
    have tests : ∀ (σ : L2.St), σ[0]? = some (some (.ref A.aw)) → σ[1]? = some (some (.int (eI x))) → σ[4]? = some (some (.int (((w.wrote x).length + ns.length : Nat) : Int))) → Ans (tOr (tB (tOp (rIxL K) (tDGet (tVar 0) (tC (.str "told"))) (tVar 1))) (tOr (tB (tDGet (tVar 0) (tC (.str "cuts")))) (tOr (tTest (tOp (rI0 fun i j => V.bl (decide (i > j))) (tVar 4) (tC (.int 512)))) (tTest (tOp (rI0 fun i j => V.bl (decide (i > j))) (tDGet (tVar 0) (tC (.str "now"))) (tC (.int 800))))))) σ H4 (w.told x || (w.cuts || (decide (512 < (w.wrote x).length + ns.length) || decide (800 < w.now)))) := fun σ h0 h1 h4 =>
      ans_or2 (ans_val (val_ix (val_dget (k := .inr "told") (val_var h0) val_c W4.dic rfl wd_told) (val_var h1) W4.to (at_pair (fun y => V.bl (w.told y)) x))) (ans_or2 (ans_val (val_dget (k := .inr "cuts") (val_var h0) val_c W4.dic rfl wd_cuts)) (ans_or2 (ans_rI0 (val_var h4) val_c (by exact congrArg V.bl (decide_eq_decide.mpr (by first | omega | (dsimp only; omega))))) (ans_rI0 (val_dget (k := .inr "now") (val_var h0) val_c W4.dic rfl wd_now) val_c (by exact congrArg V.bl (decide_eq_decide.mpr (by first | omega | (dsimp only; omega)))))))
    refine sq_if (tests _ rfl rfl rfl) (fun hb => ?_) (fun hb => ?_)
    · exact st_ret (val_chain0 val_c (val_var rfl) (vl _ rfl) (many_le tl ns)) k
    · rw [Bool.or_eq_false_iff, Bool.or_eq_false_iff, Bool.or_eq_false_iff, decide_eq_false_iff_not, decide_eq_false_iff_not] at hb
      have ha := many_all G.inv hft (d := ns) e hb.1 hb.2.1 (by omega) (by omega)
      refine st_ret (val_to (val_op (val_var rfl) (vl _ rfl) fun Q q => ⟨rfl, q⟩) ?_) k
      rw [ha]
      exact congrArg V.bl (decide_eq_true rfl)
theorem ok_L_own (S : Says K mg) (F_L_next : Fn P w K mg base 2 "_law_next" ["_law_draw_here", "_law_size"] spNext) (F_L_wrote : Fn P w K mg base 6 "_law_wrote" ["_law_world", "_law_end", "_law_data"] (spWrote K)) (F_L_bytes : Fn P w K mg base 3 "_law_bytes" ["_law_draw_here", "_law_many"] spBytes) (F_Talk_read : Mt P w K mg base 3 "Talk" "read" ["self", "many"] (spKRead K)) (F_Talk_finish : Mt P w K mg base 5 "Talk" "finish" ["self"] (spKFinish K)) (F_L_sent : Fn P w K mg base 1 "_law_sent" ["_law_world", "_law_end", "_law_segments"] (spSent K)) (F_Talk_cut : Mt P w K mg base 6 "Talk" "cut" ["self"] (spKCut K)) : Fn P w K mg base 7 "_law_own" ["_law_world", "_law_draw_here"] (spOwn K) := by
  obtain ⟨fd, F⟩ := S.u_L_own
  have sc : FnScope ["_law_world", "_law_draw_here", "_law_end", "_law_talk", "_law_kind"] ["_law_world", "_law_draw_here"] (defScope s_L_own) := ⟨rfl, rfl, rfl, by decide +kernel, rfl, by decide +kernel, by decide +kernel⟩
  refine ⟨⟨fd, F.ok sc (fun vs H Q E h => ?_) (fun cdv A outer s H vs Q E hr h => ⟨_, PSs.nox (pss_cons (ps_set (i := 2) sc.nd rfl (Or.inl rfl) (pe_fn F_L_next (hr.mono (by decide)) (pa_cons (pv 1) (pa_cons pe_int pa_nil))))
      (pss_cons (ps_set (i := 3) sc.nd rfl (Or.inl rfl) (pe_ix ix_list (pe_dget (hu_of hr) (pv 0) pe_str (fun _ _ => rfl)) (pv 2) (fun _ _ => rfl)))
      (pss_cons (ps_if (pt_cmpR op_isN (pv 3) pe_non (nomark _)) (pss_one (ps_ret pe_bl)) pss_nil)
      (pss_cons (ps_set (i := 4) sc.nd rfl (Or.inl rfl) (pe_fn F_L_next (hr.mono (by decide)) (pa_cons (pv 1) (pa_cons pe_int pa_nil))))
      (pss_cons (ps_if (pt_cmpR op_lt (pv 4) pe_int (nomark _)) (pss_one (ps_ret (pe_fn F_L_wrote (hr.mono (by decide)) (pa_cons (pv 0) (pa_cons (pv 2) (pa_cons (pe_fn F_L_bytes (hr.mono (by decide)) (pa_cons (pv 1) (pa_cons (pe_op op_add pe_int (pe_fn F_L_next (hr.mono (by decide)) (pa_cons (pv 1) (pa_cons pe_int pa_nil)))) pa_nil))) pa_nil)))))) (pss_one (ps_if (pt_cmpR op_lt (pv 4) pe_int (nomark _)) (pss_one (ps_asg (pe_op op_catA (pe_ix ix_list (pe_dget (hu_of hr) (pv 0) pe_str (fun _ _ => rfl)) (pv 2) (fun _ _ => rfl)) (pe_mt (pv 3) F_Talk_read (hr.mono (by decide)) (pa_cons (pe_fn F_L_next (hr.mono (by decide)) (pa_cons (pv 1) (pa_cons pe_int pa_nil))) pa_nil))) (pg_sub (pe_dget (hu_of hr) (pv 0) pe_str (fun _ _ => rfl)) (pv 2) set_list))) (pss_one (ps_if (pt_cmpR op_lt (pv 4) pe_int (nomark _)) (pss_cons (ps_expr (pe_mt0 (pv 3) F_Talk_finish (hr.mono (by decide))))
      (pss_one (ps_asg pe_bl (pg_sub (pe_dget (hu_of hr) (pv 0) pe_str (fun _ _ => rfl)) (pv 2) set_list)))) (pss_cons (ps_dput (hu_of hr) (pv 0) pe_str pe_bl rfl)
      (pss_one (ps_expr (pe_fn F_L_sent (hr.mono (by decide)) (pa_cons (pv 0) (pa_cons (pv 2) (pa_cons (pe_mt0 (pv 3) F_Talk_cut (hr.mono (by decide))) pa_nil))))))))))))
      (pss_one (ps_ret pe_bl))))))), ?_⟩), F.bindsN (fun _ _ _ _ _ _ us hl => match us, hl with | [_, _], _ => rfl)⟩, F.kp, S.g__law_own⟩
  · obtain ⟨_, _, _, _, rfl, _⟩ := h
    rfl
  · obtain ⟨A, w, b, n, rfl, W, L, hn, hd, hb, k⟩ := h
    refine sq_as (ex_fn (arg_cons (val_var rfl) (arg_cons (val_c (v := .int (2 : Nat))) arg_nil)) ⟨b, 2, rfl, hd, by decide, by decide, fun e H1 he F1 hd1 => ?_⟩)
    have W1 := W.drawn hb hd F1
    obtain ⟨x, ex⟩ := eI_of he
    rw [ex]
    clear ex he e W
    obtain ⟨v, hv, tv⟩ := W1.tv
    refine sq_av (val_ix (val_dget (k := .inr "talks") (val_var rfl) val_c W1.dic rfl wd_talks) (val_var rfl) hv (at_pair v x)) ?_
    cases e : w.talk x with
    | none =>
      have hvx : v x = .non := by have := tv x; rw [e] at this; exact this
      exact sq_yes (ans_isN' (val_var rfl) (by rw [hvx]; rfl)) (st_ret val_c (k A w H1 W1 L.next (WStpB.of F1 hd1.ne (WStp.refl _ _ _))))
    | some tl =>
    have hvx : v x = .ref (A.a x) := by have := tv x; rw [e] at this; exact this.1
    rw [hvx]
    clear hv tv hvx v
    refine sq_no (ans_isN' (val_var rfl) rfl) ?_
    refine sq_as (ex_fn (arg_cons (val_var rfl) (arg_cons (val_c (v := .int (16 : Nat))) arg_nil)) ⟨b, 16, rfl, hd1, by decide, by decide, fun kind H2 hkind F2 hd2 => ?_⟩)
    have W2 := W1.drawn hb hd1 F2
    replace F1 := F1.trans F2
    clear W1 hd1 F2
    obtain ⟨fit, f2, f3, f4, f5, f6, f7, f8⟩ := L.good.inv.fit e
    by_cases c1 : kind < 8
    · refine sq_yes (ans_rI0 (val_var rfl) val_c (by exact congrArg V.bl (decide_eq_true (by first | omega | (dsimp only; omega))))) (st_rt (ex_fne (ex_c1 (val_var rfl) (ex_c1 (val_var rfl) (ex_ce (ex_fne (ex_c1 (val_var rfl) (ex_ce (ex_op1 val_c (ex_fn (arg_cons (val_var rfl) (arg_cons (val_c (v := .int (60 : Nat))) arg_nil)) ⟨b, 60, rfl, hd2, by decide, by decide, fun m H3 hm F3 hd3 => ⟨_, _, rfl, rfl, ta_nil ?_⟩⟩))))))))))
      refine ⟨b, 1 + m, by rw [Int.natCast_add]; rfl, hd3, by omega, fun d ns H4 hns h256 F4 hd4 hnd => ta_nil ?_⟩
      have W3 := W2.drawn hb hd2 F3
      have W4 := W3.drawn hb hd3 F4
      have hw := L.wl x
      exact ⟨A, w, x, d, ns, tl, rfl, W4, L.good, L.ft, e, hnd, by omega, h256, by omega, fun A' H' W' s' => k A' _ H' W' (L.write hn x (by omega) h256) (WStpB.of ((F1.trans F3).trans F4) hd4.ne s')⟩
    refine sq_noE (ans_rI0 (val_var rfl) val_c (by exact congrArg V.bl (decide_eq_false (by first | omega | (dsimp only; omega))))) ?_
    by_cases c2 : kind < 13
    · have T2 : TalkAt K H2 (A.a x) (A.n x) tl := by
        obtain ⟨v, hv, tv⟩ := W2.tv
        have := tv x; rw [e] at this; exact this.2
      obtain ⟨t2, KT2⟩ := id T2
      refine st_yes (ans_rI0 (val_var rfl) val_c (by exact congrArg V.bl (decide_eq_true (by first | omega | (dsimp only; omega))))) (st_tup (ex_op1 (val_ix (val_dget (k := .inr "has") (val_var rfl) val_c W2.dic rfl wd_has) (val_var rfl) W2.hs (at_pair (fun y => V.ref (A.h y)) x)) (ex_mte (val_var rfl) KT2.ob (by kernel_rfl) (ex_ce (ex_fn (arg_cons (val_var rfl) (arg_cons (val_c (v := .int (50 : Nat))) arg_nil)) ⟨b, 50, rfl, hd2, by decide, by decide, fun m H3 hm F3 hd3 => ta_nil ?_⟩)))))
      have W3 := W2.drawn hb hd2 F3
      have T3 : TalkAt K H3 (A.a x) (A.n x) tl := by
        obtain ⟨v, hv, tv⟩ := W3.tv
        have := tv x; rw [e] at this; exact this.2
      refine ⟨A.a x, m, A.n x, tl, rfl, T3, fun r H4 T4 st4 hr => ?_⟩
      have W4 := W3.talk0 e st4 T4
      have s4 := WStp.talk0 (A := A) (tl' := tl.read m) e st4
      have hi := (L.good.inv.read x m).right.has x
      rw [read_some e] at hi
      have hi2 : (put w.has x (w.has x ++ tl.readOut m) x).length ≤ (w.wrote !x).length := hi.2
      rw [put_same, List.length_append] at hi2
      have hw := L.wl (!x)
      refine cat_t (W4.ht x) hr (by rw [List.length_map, List.length_map, sizeLine_eq]; show (w.has x).length + _ ≤ _; omega) fun p H5 s5 hp => ?_
      have W5 := W4.same s5
      have hp : H5 p = some (.tup ((w.has x ++ tl.readOut m).map nV)) := by rw [hp, List.map_append]
      have W6 := W5.hset x hp
      refine (val_dget (k := .inr "has") (val_var rfl) val_c W5.dic rfl wd_has) _ (val_var (i := 2) rfl _ ⟨A.lh, _, _, _, rfl, rfl, W5.hs, ix_pair _ _ x, ?_⟩)
      rw [set_pair (fun y => V.ref (A.h y)) x (.ref p)]
      have e2 : ∀ y, put (fun y => V.ref (A.h y)) x (.ref p) y = V.ref (put A.h x p y) := fun y => by unfold put; split <;> rfl
      rw [e2, e2]
      show Q (V.bl true) _
      refine k _ (w.read x m) _ (by rw [read_some e]; exact W6) (L.read x m) ?_
      rw [read_some e]
      exact WStpB.of (F1.trans F3) hd3.ne ((s4.trans (WStp.same s5)).trans (WStp.of_fr (F := [A.lh]) Fr.up (by simp [Wa.ls])))
    refine st_no (ans_rI0 (val_var rfl) val_c (by exact congrArg V.bl (decide_eq_false (by first | omega | (dsimp only; omega))))) ?_
    have T2 : TalkAt K H2 (A.a x) (A.n x) tl := by
      obtain ⟨v, hv, tv⟩ := W2.tv
      have := tv x; rw [e] at this; exact this.2
    obtain ⟨t2, KT2⟩ := id T2
    by_cases c3 : kind < 15
    · refine st_yes (ans_rI0 (val_var rfl) val_c (by exact congrArg V.bl (decide_eq_true (by first | omega | (dsimp only; omega))))) (sq_dr (ex_mt (val_var rfl) KT2.ob (by kernel_rfl) arg_nil ⟨A.a x, A.n x, tl, rfl, T2, fit.ok, f5, fun H3 T3 st3 => ?_⟩))
      have W3 := W2.talk0 e st3 T3
      have s3 := WStp.talk0 (A := A) (tl' := tl.finish) e st3
      have W4 := W3.oset x true
      refine st_tup (ex_v val_c ((val_dget (k := .inr "told") (val_var rfl) val_c W3.dic rfl wd_told) _ (val_var (i := 2) rfl _ ⟨A.lo, _, _, _, rfl, rfl, W3.to, ix_pair _ _ x, ?_⟩)))
      rw [set_pair (fun y => V.bl (w.told y)) x (.bl true)]
      have e2 : ∀ y, put (fun y => V.bl (w.told y)) x (.bl true) y = V.bl (put w.told x true y) := fun y => by unfold put; split <;> rfl
      rw [e2, e2]
      show Q (V.bl true) _
      refine k A ((w.finish x).tell x) _ (by rw [finish_some e]; exact W4) (L.finish x) ?_
      rw [finish_some e]
      exact WStpB.of F1 hd2.ne (s3.trans (WStp.of_fr (F := [A.lo]) Fr.up (by simp [Wa.ls])))
    · refine st_no (ans_rI0 (val_var rfl) val_c (by exact congrArg V.bl (decide_eq_false (by first | omega | (dsimp only; omega))))) (sq_dput (k := .inr "cuts") val_c (val_var rfl) val_c W2.dic rfl wd_few ?_)
      rw [wp_cuts]
      have W3 := W2.dput w.now true
      have s3 : WStp H2 (upd H2 A.aw (.dK (wd A w.now true))) A w A { w with cuts := true } := WStp.of_fr (F := [A.aw]) Fr.up (by simp [Wa.ls])
      obtain ⟨H3, eH⟩ : ∃ H3, H3 = upd H2 A.aw (.dK (wd A w.now true)) := ⟨_, rfl⟩
      rw [← eH] at W3 s3 ⊢
      have T3 : TalkAt K H3 (A.a x) (A.n x) tl := by
        obtain ⟨v, hv, tv⟩ := W3.tv
        have := tv x; rw [show ({ w with now := w.now, cuts := true } : Wd).talk x = some tl from e] at this; exact this.2
      obtain ⟨t3, KT3⟩ := id T3
      have gc := L.good.cuts e
      refine st_dr (ex_fne (ex_c1 (val_var rfl) (ex_c1 (val_var rfl) (ex_ce (ex_mt (val_var rfl) KT3.ob (by kernel_rfl) arg_nil ⟨A.a x, A.n x, tl, rfl, T3, fit, fun q hq => (gc q hq).1, fun r H4 hr hrn T4 O4 st4 => ta_nil ?_⟩)))))
      have e3 : ({ w with cuts := true } : Wd).talk x = some tl := e
      have W4 := WorldAt.talk (w := { w with cuts := true }) W3 e3 st4 T4
      have hr4 := WorldAt.out (w := { w with cuts := true }) (tl' := tl.cut) W3 e3 hr hrn
      have hlen := L.len (!x)
      refine ⟨{ A with n := put A.n x (A.n x) }, { w with cuts := true, talk := put w.talk x (some tl.cut) }, x, r, tl.cutOut, rfl, W4, O4, hr4, by show (w.road (!x)).length ≤ _; omega, Nat.le_trans (cutOut_len tl) (by decide), fun p H5 hp W5 F5 => ?_⟩
      show Q (V.bl true) _
      refine k _ (w.cut x) _ (by rw [cut_some e]; exact W5) (L.cut x) ?_
      rw [cut_some e]
      exact WStpB.of F1 hd2.ne (s3.trans (WStp.sent (K := K) (w := { w with cuts := true }) e3 st4 hr hp F5))
end
end SW
end
section
set_option maxRecDepth 100000
set_option maxHeartbeats 4000000
/-! The law: what is right; what has ended. -/
namespace SW
open PySem PySem.Spec PyProof.Rows L2
section
variable {K : PySem.W.Frag} {σ : L2.St} {H : Hp} {ta tb te : TE} {x y : V} {u2 t1 t2 : TS} {D : Ends} {i j : Nat} {c t u : TT} {b : Bool}
theorem sq_par (ha : Val ta σ H x) (hb : Val tb σ H y) (q : u2 D ((σ.set i (some x)).set j (some y)) H) : tSeq (tPar i j (tCons ta (tCons tb tNil))) u2 D σ H := ha _ (hb _ ⟨x, y, rfl, q⟩)
theorem anss_andT (h1 : AnsS t σ H true) (h2 : ∀ H', Same H H' → AnsS u σ H' b) : AnsS (tAnd t u) σ H b := fun Q q => h1 _ fun H' s => iteT (h2 H' s _ fun H2 s2 => q H2 (s.trans s2))
theorem anss_andF (h1 : AnsS t σ H false) : AnsS (tAnd t u) σ H false := fun Q q => h1 _ fun H' s => iteF (q H' s)
theorem st_noS (h : AnsS c σ H false) (q : ∀ H', Same H H' → t2 D σ H') : tIfS c t1 t2 D σ H := h _ fun H' s => iteF (q H' s)
theorem st_ifS (h : AnsS c σ H b) (h1 : ∀ H', Same H H' → b = true → t1 D σ H') (h2 : ∀ H', Same H H' → b = false → t2 D σ H') : tIfS c t1 t2 D σ H := h _ fun H' s => by
  cases b with
  | true => exact iteT (h1 H' s rfl)
  | false => exact iteF (h2 H' s rfl)
end
theorem on_in (s : Stand) : inV (V.str (standS s)) [V.str "open", V.str "ends", V.str "left", V.str "rests"] = s.isOn := by
  cases s <;> decide +kernel
theorem WorldAt.tl {K : PySem.W.Frag} {H : Hp} {A : Wa} {w : Wd} (W : WorldAt K H A w) {x : Bool} {tl : Tl} (e : w.talk x = some tl) : TalkAt K H (A.a x) (A.n x) tl := by
  obtain ⟨v, hv, tv⟩ := W.tv
  have := tv x; rw [e] at this; exact this.2
/-- the talks' list -/
def Wa.tks (A : Wa) (w : Wd) (x : Bool) : V := if (w.talk x).isSome = true then .ref (A.a x) else .non
theorem WorldAt.lst {K : PySem.W.Frag} {H : Hp} {A : Wa} {w : Wd} (W : WorldAt K H A w) : H A.lt = some (.lst [A.tks w false, A.tks w true]) := by
  obtain ⟨v, hv, tv⟩ := W.tv
  have h : ∀ x, v x = A.tks w x := fun x => by
    have := tv x
    unfold Wa.tks
    cases e : w.talk x with
    | none => rw [e] at this; exact this
    | some tl => rw [e] at this; exact this.1
  rw [hv, h, h]
theorem Wa.tks_some {A : Wa} {w : Wd} {x : Bool} {tl : Tl} (e : w.talk x = some tl) : A.tks w x = .ref (A.a x) := by unfold Wa.tks; rw [e]; rfl
theorem Wa.tks_none {A : Wa} {w : Wd} {x : Bool} (e : w.talk x = none) : A.tks w x = .non := by unfold Wa.tks; rw [e]; rfl
def spRight (K : PySem.W.Frag) : Sp := fun vs H Q _ => ∃ (A : Wa) (w : Wd), vs = [.ref A.aw] ∧ WorldAt K H A w ∧ WInv w ∧ ∀ H', Same H H' → Q (.bl true) H'
section
variable {P : Program} {w : World} {K : PySem.W.Frag} {mg : Str → Option Value} {base : Heap}
theorem ok_L_right (S : Says K mg) (F_Talk_ready : Mt P w K mg base 2 "Talk" "ready" ["self"] (spKReady K)) (F_Talk_stand : Mt P w K mg base 3 "Talk" "stand" ["self"] (spKStand K)) (F_Talk_firsts : Mt P w K mg base 1 "Talk" "firsts" ["self"] (spKFirsts K)) : Fn P w K mg base 4 "_law_right" ["_law_world"] (spRight K) := by
  obtain ⟨fd, F⟩ := S.u_L_right
  have sc : FnScope ["_law_world", "_law_end", "_law_has", "_law_wrote_here", "_law_talk", "_law_other"] ["_law_world"] (defScope s_L_right) := ⟨rfl, rfl, rfl, by decide +kernel, rfl, by decide +kernel, by decide +kernel⟩
  refine ⟨⟨fd, F.ok sc (fun vs H Q E h => ?_) (fun cdv A outer s H vs Q E hr h => ⟨_, PSs.nox (pss_cons (ps_for PassesOwn.never rfl (pi_range1 rfl S.f_range (pa_cons pe_int pa_nil)) (pg_name (i := 1) sc.nd rfl (Or.inl rfl)) (pss_cons (ps_par (i := 2) (j := 3) rfl sc.nd rfl rfl (by decide) rfl rfl (pa_cons (pe_ix ix_list (pe_dget (hu_of hr) (pv 0) pe_str (fun _ _ => rfl)) (pv 1) (fun _ _ => rfl)) (pa_cons (pe_ix ix_list (pe_dget (hu_of hr) (pv 0) pe_str (fun _ _ => rfl)) (pe_op op_sub pe_int (pv 1)) (fun _ _ => rfl)) pa_nil)) (by rfl))
      (pss_cons (ps_if (PW.pt (pw_or (pt_cmpR (op_neD hr.units) (pv 2) (pe_slice sl_tupA (pv 3) po_none (po_some (pe_callB call_len rfl S.f_len boot_len (pa_cons (pv 2) pa_nil)))) (nomark _)) (pw_or1 (pt_cmpR op_gt (pe_callB call_len rfl S.f_len boot_len (pa_cons (pv 2) pa_nil)) (pe_callB call_len rfl S.f_len boot_len (pa_cons (pv 3) pa_nil)) (nomark _))))) (pss_one (ps_ret pe_bl)) pss_nil)
      (pss_cons (ps_set (i := 4) sc.nd rfl (Or.inl rfl) (pe_ix ix_list (pe_dget (hu_of hr) (pv 0) pe_str (fun _ _ => rfl)) (pv 1) (fun _ _ => rfl)))
      (pss_cons (ps_if (PW.pt (pw_and (pt_cmpR op_notN (pv 4) pe_non (nomark _)) (pw_and1 (pt_cmpR op_gt (pe_mt0 (pv 4) F_Talk_ready (hr.mono (by decide))) pe_int (nomark _))))) (pss_one (ps_ret pe_bl)) pss_nil)
      (pss_cons (ps_set (i := 5) sc.nd rfl (Or.inl rfl) (pe_ix ix_list (pe_dget (hu_of hr) (pv 0) pe_str (fun _ _ => rfl)) (pe_op op_sub pe_int (pv 1)) (fun _ _ => rfl)))
      (pss_one (ps_if (PW.pt (pw_and (pt_cmpR op_notN (pv 4) pe_non (nomark _)) (pw_and1 (pt_cmpR op_in_seq (pe_mt0 (pv 4) F_Talk_stand (hr.mono (by decide))) (pe_tup (pa_cons pe_str (pa_cons pe_str (pa_cons pe_str (pa_cons pe_str pa_nil))))) rfl)))) (pss_one (ps_if (PW.pt (pw_or (pt_cmpR op_isN (pv 5) pe_non (nomark _)) (pw_or (pt_cmpR (op_neD hr.units) (pe_mt0 (pv 4) F_Talk_firsts (hr.mono (by decide))) (pe_revT (pe_mt0 (pv 5) F_Talk_firsts (hr.mono (by decide)))) (nomark _)) (pw_or1 (pt_cmpR op_ne (pe_ix ix_tup (pe_mt0 (pv 4) F_Talk_firsts (hr.mono (by decide))) pe_int (fun _ _ => rfl)) (pe_ix ix_tup (pe_dget (hu_of hr) (pv 0) pe_str (fun _ _ => rfl)) (pv 1) (fun _ _ => rfl)) (nomark _)))))) (pss_one (ps_ret pe_bl)) pss_nil)) pss_nil))))))))
      (pss_one (ps_ret pe_bl))), ?_⟩), F.bindsN (fun _ _ _ _ _ _ us hl => match us, hl with | [_], _ => rfl)⟩, F.kp, S.g__law_right⟩
  · obtain ⟨_, _, rfl, _⟩ := h
    rfl
  · obtain ⟨A, w, rfl, W, I, k⟩ := h
    have R := I.right
    refine sq_rng1 (n := 2) val_c (by decide) (fun i σ H' => ∃ z1 z2 z3 z4 z5, σ = [some (V.ref A.aw), z1, z2, z3, z4, z5] ∧ Same H H') ⟨none, none, none, none, none, rfl, Same.refl H⟩ ?_ ?_
    · rintro i σ H1 hi ⟨z1, z2, z3, z4, z5, rfl, s1⟩
      obtain ⟨x, ex⟩ := eI_of hi
      rw [ex]
      clear ex hi
      have W1 := W.same s1
      show _
      refine sq_par (i := 2) (j := 3) (val_ix (val_dget (k := .inr "has") (val_var (i := 0) rfl) val_c W1.dic rfl wd_has) (val_var (i := 1) rfl) W1.hs (at_pair (fun y => V.ref (A.h y)) x)) (val_ix (val_dget (k := .inr "wrote") (val_var (i := 0) rfl) val_c W1.dic rfl wd_wrote) (val_to (val_sub val_c (val_var (i := 1) rfl)) (congrArg V.int (eI_not x))) W1.wr (at_pair (fun y => V.ref (A.w y)) (!x))) ?_
      have hH := W1.ht x
      have hW := W1.wt (!x)
      obtain ⟨r1, r2⟩ := R.has x
      have hlen : ∀ (σ : L2.St) (H' : Hp), Same H1 H' → σ[2]? = some (some (.ref (A.h x))) → Val (tCB (fun xs H Q => ∃ x n, xs = [x] ∧ LenV K x H n ∧ Q (.int n) H) (tCons (tVar 2) tNil)) σ H' (.int ((w.has x).length : Nat)) := fun σ H' s h => by
        have := val_len_tup (K := K) (σ := σ) (val_var h) (SqT.of (s _ _ hH))
        rw [List.length_map] at this
        exact this
      have hlenW : ∀ (σ : L2.St) (H' : Hp), Same H1 H' → σ[3]? = some (some (.ref (A.w (!x)))) → Val (tCB (fun xs H Q => ∃ x n, xs = [x] ∧ LenV K x H n ∧ Q (.int n) H) (tCons (tVar 3) tNil)) σ H' (.int ((w.wrote (!x)).length : Nat)) := fun σ H' s h => by
        have := val_len_tup (K := K) (σ := σ) (val_var h) (SqT.of (s _ _ hW))
        rw [List.length_map] at this
        exact this
      refine sq_noS (anss_or2 (b1 := false) (b2 := false) (fun Q q => ?_) fun H' s => Ans.mk_s (ans_rI0 (hlen _ _ s rfl) (hlenW _ _ s rfl) ?_)) fun H2 s2 => ?_
      · refine ex_op1 (val_var (i := 2) rfl) (slt_e (val_var (i := 3) rfl) (po_n (po_v (hlen _ _ (Same.refl _) rfl) (sl_take hW fun b H' s hb => ne_tt (s _ _ hH) hb sc_nV (fun v hv => sc_nV v (List.mem_of_mem_take hv)) ⟨_, rfl, ?_⟩))))
        rw [← List.map_take, ← r1, decide_eq_true rfl]
        exact q H' s
      · exact congrArg V.bl (decide_eq_false (by omega))
      have W2 := W1.same s2
      have s2 := s1.trans s2
      clear hlen hlenW hH hW W1
      refine sq_av (val_ix (val_dget (k := .inr "talks") (val_var (i := 0) rfl) val_c W2.dic rfl wd_talks) (val_var (i := 1) rfl) W2.lst (at_pair (A.tks w) x)) ?_
      have vo : ∀ (σ : L2.St), σ[0]? = some (some (.ref A.aw)) → σ[1]? = some (some (.int (eI x))) → Val (tOp (rIxL K) (tDGet (tVar 0) (tC (.str "talks"))) (tOp (rI0 fun i j => V.int (i - j)) (tC (.int 1)) (tVar 1))) σ H2 (A.tks w (!x)) := fun σ h0 h1 => val_ix (val_dget (k := .inr "talks") (val_var h0) val_c W2.dic rfl wd_talks) (val_to (val_sub val_c (val_var h1)) (congrArg V.int (eI_not x))) W2.lst (at_pair (A.tks w) (!x))
      cases e : w.talk x with
      | none =>
        rw [Wa.tks_none e]
        refine sq_no (ans_and0 (ans_notN' (val_var (i := 4) rfl) rfl)) ?_
        refine sq_av (vo _ rfl rfl) ?_
        exact st_no (ans_and0 (ans_notN' (val_var (i := 4) rfl) rfl)) (st_next ⟨_, _, _, _, _, rfl, s2⟩)
      | some tl =>
        rw [Wa.tks_some e]
        have T := W2.tl e
        have fit := (I.fit e).1
        have hrd := R.ready x tl e
        obtain ⟨tv, KT⟩ := id T
        refine sq_no (ans_and (ans_notN' (val_var (i := 4) rfl) rfl) (ans_rI0 (val_mt (val_var (i := 4) rfl) KT.ob (by kernel_rfl) arg_nil fun Q q => ⟨_, _, _, rfl, T, q⟩) val_c (by exact congrArg V.bl (decide_eq_false (by first | omega | (dsimp only; omega)))))) ?_
        refine sq_av (vo _ rfl rfl) ?_
        refine st_ifS (b := tl.stand.isOn) (anss_andT (Ans.mk_s (ans_notN' (val_var (i := 4) rfl) rfl)) fun H' s Q q => ?_) (fun H3 s3 hon => ?_) (fun H3 s3 _ => st_next ⟨_, _, _, _, _, rfl, s2.trans s3⟩)
        · have T' := T.same s
          obtain ⟨tv', KT'⟩ := id T'
          refine ex_mt (val_var (i := 4) rfl) KT'.ob (by kernel_rfl) arg_nil ⟨_, _, tl, rfl, T', fit.ok, ex_c1 val_c (ex_c1 val_c (ex_c1 val_c (ex_c1 val_c (ta_nil ⟨by show 4 ≤ sizeLine; decide, fun p hp => ⟨p, _, rfl, Or.inr (SqT.of upd_same), rfl, rfl, ?_⟩⟩))))⟩
          rw [if_neg (by decide), on_in]
          exact ⟨_, rfl, q _ (Same.new hp)⟩
        · obtain ⟨o1, ot, o2, o3, o4⟩ := R.on x tl e hon
          rw [Wa.tks_some o2]
          have O := (W2.same s3).tl o2
          have T3 := T.same s3
          have W3 := W2.same s3
          have s3 := s2.trans s3
          clear vo KT T W2
          obtain ⟨tv3, KT3⟩ := id T3
          obtain ⟨ov3, KO3⟩ := id O
          refine st_noS (anss_or2 (b1 := false) (b2 := false) (Ans.mk_s (ans_isN' (val_var (i := 5) rfl) rfl)) fun H4 s4 => anss_or2 (b1 := false) (b2 := false) (fun Q q => ?_) fun H5 s5 Q q => ?_) fun H6 s6 => ⟨_, _, _, _, _, rfl, s3.trans s6⟩
          · refine ex_mt (val_var (i := 4) rfl) (KT3.ob.same s4) (by kernel_rfl) arg_nil ⟨_, _, tl, rfl, T3.same s4, fun b1 H5 hb1 s5 h1 => ?_⟩
            refine ex_mt (val_var (i := 5) rfl) (KO3.ob.same (s4.trans s5)) (by kernel_rfl) arg_nil ⟨_, _, ot, rfl, O.same (s4.trans s5), fun b2 H6 hb2 s6 h2 => ⟨b2, _, _, rfl, SqT.of h2, fun p hp => ?_⟩⟩
            rw [o4]
            rw [o3] at h1
            refine ne_tt (upd_at (s6 _ _ h1) hp) upd_same (by intro v hv; simp only [List.mem_cons, List.not_mem_nil, or_false] at hv; rcases hv with e | e <;> (rw [e]; rfl)) (by intro v hv; simp only [List.mem_cons, List.not_mem_nil, or_false] at hv; rcases hv with e | e <;> (rw [e]; rfl)) ⟨_, rfl, ?_⟩
            rw [decide_eq_true (show ([V.int tl.first, optV (some ot.first)] : List V) = [optV (some tl.first), V.int ot.first] from rfl)]
            exact q _ ((s5.trans s6).trans (Same.new hp))
          · refine ex_mt (val_var (i := 4) rfl) (KT3.ob.same (s4.trans s5)) (by kernel_rfl) arg_nil ⟨_, _, tl, rfl, T3.same (s4.trans s5), fun b1 H6 hb1 s6 h1 => val_c _ ⟨b1, _, _, _, rfl, rfl, SqT.of h1, rfl, ?_⟩⟩
            have W6 := (W3.same (s4.trans s5)).same s6
            refine val_ixT (val_dget (k := .inr "firsts") (val_var (i := 0) rfl) val_c W6.dic rfl wd_firsts) (val_var (i := 1) rfl) W6.fi (at_pair (fun y => V.int (w.first y)) x) _ ⟨rfl, _, rfl, ?_⟩
            rw [o1, decide_eq_true rfl]
            exact q _ s6
    · rintro σ H2 ⟨z1, z2, z3, z4, z5, rfl, s2⟩
      exact st_ret val_c (k H2 s2)
end
end SW
end
section
set_option maxRecDepth 100000
set_option maxHeartbeats 4000000
/-! The law: all comes. -/
namespace SW
open PySem PySem.Spec PyProof.Rows L2
section
variable {K : PySem.W.Frag} {σ : L2.St} {H : Hp} {ta tb te : TE} {x y : V} {u t1 t2 : TS} {D : Ends} {i j : Nat} {c : TT} {b : Bool}
theorem sq_whileS {tc : TT} {ts : TS} (W : Nat → L2.St → Hp → Prop) (m : Nat) (w0 : W m σ H)
    (hs : ∀ m σ H, W m σ H → ∃ b, AnsS tc σ H b ∧ (b = true → ∀ H1, Same H H1 → ∀ N : L2.St → Hp → Prop, (∀ m' σ' H', m' < m → W m' σ' H' → N σ' H') → ts { D with nx := N, ct := N, bk := u D } σ H1) ∧ (b = false → ∀ H1, Same H H1 → u D σ H1)) : tSeq (tWhile tc ts) u D σ H := by
  refine ⟨W, ⟨m, w0⟩, fun m σ H w => ?_⟩
  obtain ⟨b, ha, h1, h2⟩ := hs m σ H w
  refine ha _ fun H1 s => ?_
  cases b with
  | true => exact iteT ⟨_, fun σ' H' n => n, h1 rfl H1 s _ fun m' σ' H' l w' => ⟨m', l, w'⟩⟩
  | false => exact iteF (h2 rfl H1 s)
theorem anss_neR {a r0 r1 : Addr} {xs ys : List V} (ha : Val ta σ H (.ref a)) (h : H a = some (.lst [.ref r0, .ref r1])) (h0 : H r0 = some (.lst xs)) (h1 : H r1 = some (.lst ys)) : AnsS (tTest (tOp (rNeR K) ta (tLst (tCons (tLst tNil) (tCons (tLst tNil) tNil))))) σ H (!(decide (xs = []) && decide (ys = []))) := fun Q q => by
  refine ex_op1 ha (ex_ce (ta_nil ⟨by show 0 ≤ sizeLine; decide, fun e0 he0 => ex_ce (ta_nil ⟨by show 0 ≤ sizeLine; decide, fun e1 he1 => ta_nil ⟨by show 2 ≤ sizeLine; decide, fun b hb => ?_⟩⟩)⟩))
  have s0 := Same.new (o := .lst []) he0
  have s1 := Same.new (o := .lst []) he1
  have s2 := Same.new (o := .lst [.ref e0, .ref e1]) hb
  have s := (s0.trans s1).trans s2
  refine ⟨a, b, r0, r1, e0, e1, xs, ys, rfl, rfl, SqL.of (s _ _ h), SqL.of upd_same, SqL.of (s _ _ h0), SqL.of (s _ _ h1), SqL.of (s2 _ _ (s1 _ _ upd_same)), SqL.of (s2 _ _ upd_same), ne_of_none h0 he0, ne_of_none h1 (s0.free he1), ⟨_, rfl, q _ s⟩⟩
theorem st_ifB {b : Bool} (h : Ans c σ H b) (h1 : b = true → t1 D σ H) (h2 : b = false → t2 D σ H) : tIfS c t1 t2 D σ H := st_if h h1 h2
end
theorem step_eq {w : Wd} {x : Bool} {s : Sg} {r : List Sg} (hx : x = decide (w.road false = [])) (h : w.road x = s :: r) : w.step = (w.rd x r).come x s := by
  unfold Wd.step
  cases e : w.road false with
  | cons s2 r2 =>
    rw [e, decide_eq_false (fun q => nomatch q)] at hx
    subst hx
    rw [e] at h
    cases h
    rfl
  | nil =>
    rw [e, decide_eq_true rfl] at hx
    subst hx
    rw [h]
    rfl
noncomputable def Wd.readsN (w : Wd) : Nat → Wd
  | 0 => w
  | 1 => w.read false 200
  | _ => (w.read false 200).read true 200
theorem readsN_step (w : Wd) {i : Nat} (h : i < 2) : ∃ x : Bool, ((i : Nat) : Int) = eI x ∧ w.readsN (i + 1) = (w.readsN i).read x 200 := by
  match i, h with
  | 0, _ => exact ⟨false, rfl, rfl⟩
  | 1, _ => exact ⟨true, rfl, rfl⟩
theorem readsN_inv {w : Wd} (I : WInv w) : ∀ i, WInv (w.readsN i)
  | 0 => I
  | 1 => I.read false 200
  | i + 2 => (I.read false 200).read true 200
theorem readsN_wrote (w : Wd) : ∀ i, (w.readsN i).wrote = w.wrote
  | 0 => rfl
  | 1 => (read_rest w false 200).2.2.2.1
  | i + 2 => ((read_rest (w.read false 200) true 200).2.2.2.1).trans (read_rest w false 200).2.2.2.1
theorem lies_run {w : Wd} (G : WGood w) : ∀ k, (w.run k).lies ≤ w.lies
  | 0 => Nat.le_refl _
  | k + 1 => Nat.le_trans (lies_step (G.run k).inv) (lies_run G k)
/-- a reading of an end is laid down -/
def spAll (K : PySem.W.Frag) : Sp := fun vs H Q _ => ∃ (A : Wa) (w : Wd), vs = [.ref A.aw] ∧ WorldAt K H A w ∧ WGood w ∧ w.len 1900000 ∧ (∀ x, (w.wrote x).length ≤ 100000) ∧
  ∀ A' k H', (w.run k).empty → WorldAt K H' A' (w.run k).reads → WStp H H' A w A' (w.run k).reads → Q .non H'
section
variable {P : Program} {w : World} {K : PySem.W.Frag} {mg : Str → Option Value} {base : Heap}
theorem ok_L_all_come (S : Says K mg) (F_L_come : Fn P w K mg base 8 "_law_come" ["_law_world", "_law_end", "_law_segment"] (spCome K)) (F_Talk_read : Mt P w K mg base 3 "Talk" "read" ["self", "many"] (spKRead K)) : Fn P w K mg base 9 "_law_all_come" ["_law_world"] (spAll K) := by
  obtain ⟨fd, F⟩ := S.u_L_all_come
  have sc : FnScope ["_law_world", "_law_end", "_law_segment"] ["_law_world"] (defScope s_L_all_come) := ⟨rfl, rfl, rfl, by decide +kernel, rfl, by decide +kernel, by decide +kernel⟩
  refine ⟨⟨fd, F.ok sc (fun vs H Q E h => ?_) (fun cdv A outer s H vs Q E hr h => ⟨_, PSs.nox (pss_cons (ps_while PassesOwn.never (pt_cmpR (op_neR hr) (pe_dget (hu_of hr) (pv 0) pe_str (fun _ _ => rfl)) (pe_lst (pa_cons (pe_lst pa_nil) (pa_cons (pe_lst pa_nil) pa_nil))) (nomark _)) (pss_cons (ps_set (i := 1) sc.nd rfl (Or.inl rfl) (pe_callTy call_int1 rfl S.f_int boot_int (pa_cons (pe_cmpR (op_eqR hr) (pe_ix ix_list (pe_dget (hu_of hr) (pv 0) pe_str (fun _ _ => rfl)) pe_int (fun _ _ => rfl)) (pe_lst pa_nil) (nomark _)) pa_nil)))
      (pss_cons (ps_set (i := 2) sc.nd rfl (Or.inl rfl) (pe_ix ix_list (pe_ix ix_list (pe_dget (hu_of hr) (pv 0) pe_str (fun _ _ => rfl)) (pv 1) (fun _ _ => rfl)) pe_int (fun _ _ => rfl)))
      (pss_cons (ps_asg (pe_slice sl_list (pe_ix ix_list (pe_dget (hu_of hr) (pv 0) pe_str (fun _ _ => rfl)) (pv 1) (fun _ _ => rfl)) (po_some pe_int) po_none) (pg_sub (pe_dget (hu_of hr) (pv 0) pe_str (fun _ _ => rfl)) (pv 1) set_list))
      (pss_one (ps_expr (pe_fn F_L_come (hr.mono (by decide)) (pa_cons (pv 0) (pa_cons (pv 1) (pa_cons (pv 2) pa_nil))))))))))
      (pss_one (ps_for PassesOwn.never rfl (pi_range1 rfl S.f_range (pa_cons pe_int pa_nil)) (pg_name (i := 1) sc.nd rfl (Or.inl rfl)) (pss_one (ps_if (pt_cmpR op_notN (pe_ix ix_list (pe_dget (hu_of hr) (pv 0) pe_str (fun _ _ => rfl)) (pv 1) (fun _ _ => rfl)) pe_non (nomark _)) (pss_one (ps_asg (pe_op op_catA (pe_ix ix_list (pe_dget (hu_of hr) (pv 0) pe_str (fun _ _ => rfl)) (pv 1) (fun _ _ => rfl)) (pe_mt (pe_ix ix_list (pe_dget (hu_of hr) (pv 0) pe_str (fun _ _ => rfl)) (pv 1) (fun _ _ => rfl)) F_Talk_read (hr.mono (by decide)) (pa_cons pe_int pa_nil))) (pg_sub (pe_dget (hu_of hr) (pv 0) pe_str (fun _ _ => rfl)) (pv 1) set_list))) pss_nil))))), ?_⟩), F.bindsN (fun _ _ _ _ _ _ us hl => match us, hl with | [_], _ => rfl)⟩, F.kp, S.g__law_all_come⟩
  · obtain ⟨_, _, rfl, _⟩ := h
    rfl
  · obtain ⟨A, w, rfl, W, G, hl, hw, k⟩ := h
    have hli := lies_len hl
    refine sq_whileS (fun m σ H' => ∃ z1 z2 A' j, σ = [some (V.ref A.aw), z1, z2] ∧ WorldAt K H' A' (w.run j) ∧ WStp H H' A w A' (w.run j) ∧ (w.run j).load = m) w.load ⟨none, none, A, 0, rfl, W, WStp.refl _ _ _, rfl⟩ ?_
    rintro m σ H1 ⟨z1, z2, A1, j, rfl, W1, s1, hm⟩
    have ea : A1.aw = A.aw := s1.aw
    rw [← ea]
    obtain ⟨xs, hx, ox⟩ := W1.rd false
    obtain ⟨ys, hy, oy⟩ := W1.rd true
    have G1 := G.run j
    have l1 := lies_run G j
    have hwr : (w.run j).wrote = w.wrote := (run_plain w j).2.2
    have nx : (w.run j).step = w.run (j + 1) := rfl
    have e0 : xs = [] ↔ (w.run j).road false = [] := by rw [← List.length_eq_zero_iff, ← List.length_eq_zero_iff, ox.1]
    have e1 : ys = [] ↔ (w.run j).road true = [] := by rw [← List.length_eq_zero_iff, ← List.length_eq_zero_iff, oy.1]
    refine ⟨_, anss_neR (val_dget (k := .inr "roads") (val_var (i := 0) rfl) val_c W1.dic rfl wd_roads) W1.ro hx hy, fun hb H2 s2 N hN => ?_, fun hb H2 s2 => ?_⟩
    · have W2 := W1.same s2
      have hne : ¬ (w.run j).empty := fun q => by
        rw [decide_eq_true (e0.mpr q.1), decide_eq_true (e1.mpr q.2)] at hb
        exact absurd hb (by decide)
      obtain ⟨x, exd⟩ : ∃ x : Bool, x = decide ((w.run j).road false = []) := ⟨_, rfl⟩
      have hxx : decide (xs = []) = x := by rw [exd]; exact decide_eq_decide.mpr e0
      have hcons : ∃ s r, (w.run j).road x = s :: r := by
        cases e : (w.run j).road x with
        | cons s r => exact ⟨s, r, rfl⟩
        | nil =>
          exfalso
          cases x with
          | false => exact of_decide_eq_false exd.symm e
          | true => exact hne ⟨of_decide_eq_true exd.symm, e⟩
      obtain ⟨s, r, er⟩ := hcons
      refine sq_as (ex_cbe (ex_ce (ex_op1 (val_ix (val_dget (k := .inr "roads") (val_var (i := 0) rfl) val_c W2.dic rfl wd_roads) val_c W2.ro (show atI [V.ref (A1.r false), V.ref (A1.r true)] 0 = some (.ref (A1.r false)) from rfl)) (ta_nil ⟨by show 0 ≤ sizeLine; decide, fun p hp => ⟨_, p, xs, rfl, rfl, SqL.of (upd_at (s2 _ _ hx) hp), SqL.of upd_same, ta_nil (.inr ⟨_, rfl, ?_⟩)⟩⟩))))
      rw [hxx]
      have s3 := Same.new (o := .lst []) hp
      have W3 := W2.same s3
      obtain ⟨H3, eH⟩ : ∃ H3, H3 = upd H2 p (.lst []) := ⟨_, rfl⟩
      rw [← eH] at s3 W3 ⊢
      clear eH hp
      have s3 := s2.trans s3
      rw [show (if x = true then (1 : Int) else 0) = eI x from rfl]
      obtain ⟨zs, hz, oz⟩ := W3.rd x
      have hzl : zs.length = r.length + 1 := by have := oz.1; rw [er, List.length_cons] at this; exact this
      have h0 : 0 < zs.length := by omega
      obtain ⟨s', hs', sat⟩ := oz.2 0 _ (List.getElem?_eq_getElem h0)
      rw [er] at hs'
      cases hs'
      obtain ⟨sa, su, es, U⟩ := sat
      have vr : ∀ (σ : L2.St), σ[0]? = some (some (.ref A1.aw)) → σ[1]? = some (some (.int (eI x))) → Val (tOp (rIxL K) (tDGet (tVar 0) (tC (.str "roads"))) (tVar 1)) σ H3 (.ref (A1.r x)) := fun σ h0 h1 => val_ix (val_dget (k := .inr "roads") (val_var h0) val_c W3.dic rfl wd_roads) (val_var h1) W3.ro (at_pair (fun y => V.ref (A1.r y)) x)
      refine sq_av (val_to (val_ix (vr _ rfl rfl) val_c hz (atI_nat h0)) es) ?_
      refine sq_tup (slt_e (vr _ rfl rfl) (po_v (n := ((1 : Nat) : Int)) val_c (po_n (slL_drop hz fun p hp => ?_))))
      have s4 := Same.new (o := .lst (zs.drop 1)) hp
      have W4 := W3.same s4
      have O4 : OutAt K (upd H3 p (.lst (zs.drop 1))) p r := by
        have od := oz.drop 1
        rw [er] at od
        exact ⟨_, upd_same, od.mono fun y q z => z.same s4⟩
      have W5 := W4.road x (W3.nfree hp) O4
      refine val_dget (k := .inr "roads") (val_var (i := 0) rfl) val_c W4.dic rfl wd_roads _ (val_var (i := 1) rfl _ ⟨A1.lr, _, _, _, rfl, rfl, W4.ro, ix_pair _ _ x, ?_⟩)
      rw [set_pair (fun y => V.ref (A1.r y)) x (.ref p)]
      have e2 : ∀ y, put (fun y => V.ref (A1.r y)) x (.ref p) y = V.ref (put A1.r x p y) := fun y => by unfold put; split <;> rfl
      rw [e2, e2]
      have hsm : s ∈ (w.run j).road x := by rw [er]; exact List.mem_cons_self ..
      have hlen : ((w.run j).rd x r).len 3900000 := fun y => by
        show (put (w.run j).road x r y).length ≤ _
        have q1 := len_lies (w.run j) y
        have q2 := len_lies (w.run j) x
        rw [er, List.length_cons] at q2
        rcases eq_or_not x y with rfl | rfl
        · rw [put_same]; omega
        · rw [put_not]; omega
      have U5 := (U.same s4).fr (Fr.up (a := A1.lr) (o := .lst [.ref (put A1.r x p false), .ref (put A1.r x p true)])) (by simpa using (U.same s4).ob.lst W4.ro) (by simpa using fun q => by have := (U.same s4).da; rw [q, W4.ro] at this; cases this)
      have s5 : WStp H _ A w { A1 with r := put A1.r x p } ((w.run j).rd x r) := (s1.trans (WStp.same s3)).trans (WStp.road (F := [A1.lr]) ((Fr.same s4).trans (Fr.up (a := A1.lr) (o := .lst [.ref (put A1.r x p false), .ref (put A1.r x p true)]))) (by intro z hz; rw [List.mem_singleton.mp hz]; exact Wa.mut_ls (by simp [Wa.ls])) hp)
      refine st_dr (ex_fn (arg_cons (val_var (i := 0) rfl) (arg_cons (val_var (i := 1) rfl) (arg_cons (val_var (i := 2) rfl) arg_nil))) ⟨{ A1 with r := put A1.r x p }, w.run j, x, r, sa, su, s, rfl, W5, G1, hsm, U5, hlen, fun A6 H6 W6 s6 => ?_⟩)
      rw [← step_eq exd er, nx] at W6 s6
      refine hN (w.run (j + 1)).load _ H6 ?_ ⟨some (V.int (eI x)), some (V.ref sa), A6, j + 1, ?_, W6, s5.trans s6, rfl⟩
      · have := (step_load G1.inv hne).1
        rw [nx] at this
        omega
      · rfl
    · have hem : (w.run j).empty := by
        rw [Bool.not_eq_false', Bool.and_eq_true, decide_eq_true_iff, decide_eq_true_iff] at hb
        exact ⟨e0.mp hb.1, e1.mp hb.2⟩
      have k := k
      have W2 := W1.same s2
      have s2 := s1.trans (WStp.same s2)
      clear s1 W1
      refine st_rng1 (n := 2) val_c (by decide) (fun i σ H' => ∃ z1 z2 A', σ = [some (V.ref A.aw), z1, z2] ∧ WorldAt K H' A' ((w.run j).readsN i) ∧ WStp H H' A w A' ((w.run j).readsN i)) ⟨_, _, A1, by rw [ea], W2, s2⟩ ?_ ?_
      · rintro i σ H3 hi ⟨z1, z2, A3, rfl, W3, s3⟩
        obtain ⟨x, ex, ed⟩ := readsN_step (w.run j) hi
        have ea : A3.aw = A.aw := s3.aw
        rw [ex, ed, ← ea]
        have I3 := readsN_inv G1.inv i
        have hw3 := readsN_wrote (w.run j) i
        generalize (w.run j).readsN i = v at *
        show _
        have vt : ∀ σ : L2.St, σ[0]? = some (some (.ref A3.aw)) → σ[1]? = some (some (.int (eI x))) → Val (tOp (rIxL K) (tDGet (tVar 0) (tC (.str "talks"))) (tVar 1)) σ H3 (A3.tks v x) := fun σ h0 h1 => val_ix (val_dget (k := .inr "talks") (val_var h0) val_c W3.dic rfl wd_talks) (val_var h1) W3.lst (at_pair (A3.tks v) x)
        cases e : v.talk x with
        | none =>
          rw [read_none e]
          exact st_no (ans_notN' (vt _ rfl rfl) (by rw [Wa.tks_none e]; rfl)) (st_next ⟨_, _, A3, rfl, W3, s3⟩)
        | some tl =>
          have T3 := W3.tl e
          obtain ⟨tv, KT3⟩ := id T3
          refine st_yes (ans_notN' (vt _ rfl rfl) (by rw [Wa.tks_some e]; rfl)) (st_tup (ex_op1 (val_ix (val_dget (k := .inr "has") (val_var (i := 0) rfl) val_c W3.dic rfl wd_has) (val_var (i := 1) rfl) W3.hs (at_pair (fun y => V.ref (A3.h y)) x)) (ex_mt (val_to (vt _ rfl rfl) (Wa.tks_some e)) KT3.ob (by kernel_rfl) (arg_cons (val_c (v := .int (200 : Nat))) arg_nil) ⟨A3.a x, 200, A3.n x, tl, rfl, T3, fun q H4 T4 st4 hq => ?_⟩)))
          have W4 := W3.talk0 e st4 T4
          have s4 := WStp.talk0 (A := A3) (tl' := tl.read 200) e st4
          have hi2 := ((I3.read x 200).right.has x).2
          rw [read_some e] at hi2 ⊢
          have hi2 : (put v.has x (v.has x ++ tl.readOut 200) x).length ≤ (v.wrote !x).length := hi2
          rw [put_same, List.length_append, hw3, hwr] at hi2
          have hwx := hw (!x)
          refine cat_t (W4.ht x) hq (by rw [List.length_map, List.length_map, sizeLine_eq]; show (v.has x).length + _ ≤ _; omega) fun p H5 s5 hp => ?_
          have W5 := W4.same s5
          have hp : H5 p = some (.tup ((v.has x ++ tl.readOut 200).map nV)) := by rw [hp, List.map_append]
          have W6 := W5.hset x hp
          refine val_dget (k := .inr "has") (val_var (i := 0) rfl) val_c W5.dic rfl wd_has _ (val_var (i := 1) rfl _ ⟨A3.lh, _, _, _, rfl, rfl, W5.hs, ix_pair _ _ x, ?_⟩)
          rw [set_pair (fun y => V.ref (A3.h y)) x (.ref p)]
          have e2 : ∀ y, put (fun y => V.ref (A3.h y)) x (.ref p) y = V.ref (put A3.h x p y) := fun y => by unfold put; split <;> rfl
          rw [e2, e2]
          exact ⟨_, _, _, rfl, W6, s3.trans ((s4.trans (WStp.same s5)).trans (WStp.of_fr (F := [A3.lh]) Fr.up (by simp [Wa.ls])))⟩
      · rintro σ H3 ⟨z1, z2, A3, rfl, W3, s3⟩
        exact k A3 j H3 hem W3 s3
end
end SW
end
section
set_option maxRecDepth 100000
set_option maxHeartbeats 4000000
/-! The law: what has ended. -/
namespace SW
open PySem PySem.Spec PyProof.Rows L2
theorem pe_mt0K {X : Cx} {k : Nat} {c m : Str} {ps : List Str} {sp : Sp} {ta : TE} {pos apos : Pos} (K : PySem.W.Frag) {o : Expr} {pl : Sem Bool} (ho : PE X o ta) (F : Mt X.prog X.w X.K X.mg X.base k c m ps sp) (hr : Room k X.A)
    (ht : eval (.Call (.Attribute o m apos) [] [] pos) X.env = (do
      let ov ← eval o X.env
      standAt apos.atName
      let (f, first) ← holding [ov] (getMethod ov m pl)
      callWith pos f first (backTo pos (starEach [] X.env)) (backToKw pos (keywordEach [] X.env))) := by rfl) (hK : X.K = K := by rfl) : PE X (.Call (.Attribute o m apos) [] [] pos) (tMeth (He.ga K c) m sp [] E0 ta tNil) := hK ▸ pe_mt0 ho F hr ht
theorem ans_inL {K : PySem.W.Frag} {σ : L2.St} {H : Hp} {ta tb : TE} {x : V} {a : Addr} {xs : List V} {b : Bool} (ha : Val ta σ H x) (hb : Val tb σ H (.ref a)) (h : H a = some (.lst xs)) (hx : flatV x = true) (hf : xs.all flatV = true) (e : inV x xs = b) : Ans (tTest (tOp (rIn K false) ta tb)) σ H b := fun Q q => ha _ (hb _ ⟨a, xs, rfl, Or.inl (SqL.of h), hx, hf, b, by rw [if_neg (by decide), e], q⟩)
/-- the talks' stands -/
noncomputable def Wd.st1 (w : Wd) (x : Bool) : List Stand := match w.talk x with
  | none => []
  | some tl => [tl.stand]
noncomputable def Wd.sts (w : Wd) : Nat → List Stand
  | 0 => []
  | 1 => w.st1 false
  | _ => w.st1 false ++ w.st1 true
def stV (l : List Stand) : List V := l.map fun s => V.str (standS s)
theorem sts_step (w : Wd) {i : Nat} (h : i < 2) : ∃ x : Bool, [false, true][i]? = some x ∧ w.sts (i + 1) = w.sts i ++ w.st1 x := by
  match i, h with
  | 0, _ => exact ⟨false, rfl, rfl⟩
  | 1, _ => exact ⟨true, rfl, rfl⟩
theorem st1_len (w : Wd) (x : Bool) : (w.st1 x).length ≤ 1 := by
  unfold Wd.st1
  split <;> simp
theorem sts_len (w : Wd) : ∀ i, (w.sts i).length ≤ 2
  | 0 => Nat.zero_le _
  | 1 => Nat.le_trans (st1_len w false) (by decide)
  | i + 2 => by
    show (w.st1 false ++ w.st1 true).length ≤ 2
    rw [List.length_append]
    have := st1_len w false
    have := st1_len w true
    omega
theorem stV_flat (l : List Stand) : (stV l).all flatV = true := by
  rw [List.all_eq_true]
  intro v hv
  obtain ⟨s, _, rfl⟩ := List.mem_map.mp hv
  rfl
theorem stV_sc (l : List Stand) : ∀ v ∈ stV l, sc v = true := fun v hv => by
  obtain ⟨s, _, rfl⟩ := List.mem_map.mp hv
  cases s <;> decide +kernel
theorem standS_inj {s t : Stand} (h : standS s = standS t) : s = t := by
  revert h
  cases s <;> cases t <;> first | exact fun _ => rfl | (intro h; exact absurd h (by decide +kernel))
theorem eqV_st (s t : Stand) : eqV (V.str (standS s)) (V.str (standS t)) = decide (s = t) := by
  cases s <;> cases t <;> decide +kernel
theorem in_sts (t : Stand) (l : List Stand) : inV (V.str (standS t)) (stV l) = decide (t ∈ l) := by
  unfold inV stV
  rw [List.any_map]
  induction l with
  | nil => rfl
  | cons s r ih =>
    rw [List.any_cons, ih]
    show (eqV (V.str (standS s)) (V.str (standS t)) || _) = _
    rw [eqV_st, ← Bool.decide_or]
    exact decide_eq_decide.mpr (by rw [List.mem_cons]; exact ⟨fun h => h.imp Eq.symm id, fun h => h.imp Eq.symm id⟩)
theorem mem_sts {w : Wd} {t : Stand} : t ∈ w.sts 2 ↔ ∃ x tl, w.talk x = some tl ∧ tl.stand = t := by
  have h1 : ∀ x, t ∈ w.st1 x ↔ ∃ tl, w.talk x = some tl ∧ tl.stand = t := fun x => by
    unfold Wd.st1
    cases e : w.talk x with
    | none => exact ⟨fun h => absurd h List.not_mem_nil, fun ⟨tl, h, _⟩ => nomatch h⟩
    | some tl => exact ⟨fun h => ⟨tl, rfl, (List.mem_singleton.mp h).symm⟩, fun ⟨tl', h, q⟩ => by cases h; exact List.mem_singleton.mpr q.symm⟩
  show t ∈ w.st1 false ++ w.st1 true ↔ _
  rw [List.mem_append, h1, h1]
  constructor
  · rintro (⟨tl, h⟩ | ⟨tl, h⟩)
    · exact ⟨false, tl, h⟩
    · exact ⟨true, tl, h⟩
  · rintro ⟨x, tl, h⟩
    cases x
    · exact .inl ⟨tl, h⟩
    · exact .inr ⟨tl, h⟩
theorem sts_closed {w : Wd} : stV (w.sts 2) = [V.str "closed", V.str "closed"] ↔ ∃ a b, w.talk false = some a ∧ w.talk true = some b ∧ a.stand = .closed ∧ b.stand = .closed := by
  show stV (w.st1 false ++ w.st1 true) = _ ↔ _
  unfold Wd.st1
  cases e1 : w.talk false with
  | none =>
    refine ⟨fun h => ?_, fun ⟨a, b, h, _⟩ => nomatch h⟩
    have := congrArg List.length h
    cases e2 : w.talk true <;> rw [e2] at this <;> simp [stV] at this
  | some a =>
    cases e2 : w.talk true with
    | none =>
      refine ⟨fun h => ?_, fun ⟨a, b, _, h, _⟩ => nomatch h⟩
      have := congrArg List.length h
      simp [stV] at this
    | some b =>
      refine ⟨fun h => ?_, fun ⟨a', b', h1, h2, h3, h4⟩ => ?_⟩
      · have h : [V.str (standS a.stand), V.str (standS b.stand)] = [V.str (standS .closed), V.str (standS .closed)] := h
        injection h with h1 h2
        injection h2 with h2 _
        exact ⟨a, b, rfl, rfl, standS_inj (V.str.inj h1), standS_inj (V.str.inj h2)⟩
      · cases h1
        cases h2
        show [V.str (standS a.stand), V.str (standS b.stand)] = _
        rw [h3, h4]
        rfl
/-- the comprehension of the stands -/
theorem ex_stands {K : PySem.W.Frag} {σ : L2.St} {H : Hp} {A : Wa} {w : Wd} {tl te : TE} {tt : TT} {j : Nat} {Q : VK} (W : WorldAt K H A w) (ha : Val tl σ H (.ref A.lt))
    (h1 : ∀ x H' v, Same H H' → v = A.tks w x → ((w.talk x = none ∧ Ans tt ((wipe σ [j]).set j (some v)) H' false) ∨ ∃ t, w.talk x = some t ∧ Ans tt ((wipe σ [j]).set j (some v)) H' true ∧ Val te ((wipe σ [j]).set j (some v)) H' (.str (standS t.stand))))
    (hd : ∀ D H', Same H H' → H' D = some (.lst (stV (w.sts 2))) → Q (.ref D) H') : tLc (iList K tl) (gName j) tt te [j] σ H Q := by
  refine ex_lcl ha W.lst (fun D i H' => Same H H' ∧ H' D = some (.lst (stV (w.sts i)))) (fun D hD => ⟨Same.new hD, upd_same⟩) (fun D i H' hD p => p.1 _ _ W.lst) ?_ (fun D H' hD p => hd D H' p.1 p.2)
  rintro D i v H' hD hv ⟨p1, p2⟩
  have hi : i < 2 := by
    have := (List.getElem?_eq_some_iff.mp hv).1
    exact this
  obtain ⟨x, ex, es⟩ := sts_step w hi
  have hvx : v = A.tks w x := by
    have h : [A.tks w false, A.tks w true][i]? = ([false, true][i]?).map (A.tks w) := by
      match i, hi with
      | 0, _ => rfl
      | 1, _ => rfl
    rw [h, ex] at hv
    exact (Option.some.inj hv).symm
  have hw : wipe ((wipe σ [j]).set j (some v)) [j] = wipe σ [j] := by
    show ((σ.set j none).set j (some v)).set j none = σ.set j none
    rw [List.set_set, List.set_set]
  refine ⟨hw, ?_⟩
  rcases h1 x H' v p1 hvx with ⟨e, ht⟩ | ⟨t, e, ht, hte⟩
  · refine ht _ (iteF ⟨p1, ?_⟩)
    rw [p2, es]
    unfold Wd.st1
    rw [e, List.append_nil]
  · refine ht _ (iteT (hte _ ⟨_, p2, ?_, ?_, ?_⟩))
    · have := sts_len w i
      unfold stV
      rw [List.length_map, sizeLine_eq]
      omega
    · exact fun b o e => by rw [upd_ne (ne_of_none e hD)]; exact p1 b o e
    · rw [upd_same, es]
      unfold Wd.st1
      rw [e]
      show _ = some (HO.lst (stV (w.sts i ++ [t.stand])))
      unfold stV
      rw [List.map_append]
      rfl
def spEnded (K : PySem.W.Frag) : Sp := fun vs H Q _ => ∃ (A : Wa) (w : Wd), vs = [.ref A.aw] ∧ WorldAt K H A w ∧ WInv w ∧ ∀ (b : Bool) H', (b = true ↔ Ended w) → Same H H' → Q (.bl b) H'
section
variable {P : Program} {w : World} {K : PySem.W.Frag} {mg : Str → Option Value} {base : Heap}
theorem ok_L_ended (S : Says K mg) (F_Talk_stand : Mt P w K mg base 3 "Talk" "stand" ["self"] (spKStand K)) : Fn P w K mg base 4 "_law_ended" ["_law_world"] (spEnded K) := by
  obtain ⟨fd, F⟩ := S.u_L_ended
  have sc : FnScope ["_law_world", "_law_stands", "_law_talk"] ["_law_world"] (defScope s_L_ended) := ⟨rfl, rfl, rfl, by decide +kernel, rfl, by decide +kernel, by decide +kernel⟩
  refine ⟨⟨fd, F.ok sc (fun vs H Q E h => ?_) (fun cdv A outer s H vs Q E hr h => ⟨_, PSs.nox (pss_cons (ps_setLc (i := 1) (own := [("_law_talk", 2)]) (g := gName 2) rfl sc.nd rfl rfl (sw_true rfl rfl rfl (by decide +kernel)) (pi_list (pe_dget (hu_of hr) (pv 0) pe_str (fun _ _ => rfl))) (blkOk_by (own := [("_law_talk", 2)]) (N := ["_law_world", "_law_stands", "_law_talk"]) (sc := defScope s_L_ended) (by decide +kernel)) (fun _ _ _ _ _ => pg_name (i := 2) sc.nd rfl (Or.inl rfl)) (fun _ _ _ _ _ => pts_one (pt_cmpR op_notN (pv 2) pe_non (nomark _))) (fun _ _ _ _ _ => (pe_mt0K K (pv 2) F_Talk_stand (hr.mono (by decide)))))
      (pss_cons (ps_if (PW.pt (pw_or (PW.pt (pw_and (pt_cmpR op_in_seq pe_str (pv 1) rfl) (pw_and1 (pt_cmpR op_gt (pe_dget (hu_of hr) (pv 0) pe_str (fun _ _ => rfl)) pe_int (nomark _))))) (pw_or1 (PW.pt (pw_and (pt_cmpR op_in_seq pe_str (pv 1) rfl) (pw_and1 (pt_val (pe_dget (hu_of hr) (pv 0) pe_str (fun _ _ => rfl))))))))) (pss_one (ps_ret pe_bl)) pss_nil)
      (pss_one (ps_ret (pe_cmpR (op_eqD hr.units) (pv 1) (pe_lst (pa_cons pe_str (pa_cons pe_str pa_nil))) (nomark _)))))), ?_⟩), F.bindsN (fun _ _ _ _ _ _ us hl => match us, hl with | [_], _ => rfl)⟩, F.kp, S.g__law_ended⟩
  · obtain ⟨_, _, rfl, _⟩ := h
    rfl
  · obtain ⟨A, w, rfl, W, I, k⟩ := h
    refine sq_as (ex_stands W (val_dget (k := .inr "talks") (val_var rfl) val_c W.dic rfl wd_talks) (fun x H' v s hv => ?_) fun D H1 s1 hD => ?_)
    · subst hv
      cases e : w.talk x with
      | none => exact .inl ⟨rfl, ans_notN' (val_var (i := 2) rfl) (by rw [Wa.tks_none e]; rfl)⟩
      | some t =>
        have T := (W.same s).tl e
        obtain ⟨tv, KT⟩ := id T
        refine .inr ⟨t, rfl, ans_notN' (val_var (i := 2) rfl) (by rw [Wa.tks_some e]; rfl), val_mt (val_to (val_var (i := 2) rfl) (Wa.tks_some e)) KT.ob (by kernel_rfl) arg_nil fun Q q => ⟨_, _, t, rfl, T, (I.fit e).1.ok, q⟩⟩
    have W1 := W.same s1
    have tst := ans_or2 (ans_and2' (ans_inL (K := K) (σ := (L2.start ["_law_world", "_law_stands", "_law_talk"] [V.ref A.aw]).set 1 (some (V.ref D))) (val_c (v := .str "gone")) (val_var (i := 1) rfl) hD rfl (stV_flat _) (in_sts .gone (w.sts 2))) (ans_rI0 (g := fun i j => V.bl (decide (i > j))) (b := decide (800 < w.now)) (val_dget (k := .inr "now") (val_var (i := 0) rfl) val_c W1.dic rfl wd_now) (val_c (v := .int 800)) (by exact congrArg V.bl (decide_eq_decide.mpr (by first | omega | (dsimp only; omega))))))
      (ans_and2' (ans_inL (K := K) (σ := (L2.start ["_law_world", "_law_stands", "_law_talk"] [V.ref A.aw]).set 1 (some (V.ref D))) (val_c (v := .str "cut")) (val_var (i := 1) rfl) hD rfl (stV_flat _) (in_sts .cut (w.sts 2))) (ans_val (val_dget (k := .inr "cuts") (val_var (i := 0) rfl) val_c W1.dic rfl wd_cuts)))
    refine sq_if tst (fun hb => ?_) (fun hb => ?_)
    · refine st_ret val_c (k true H1 ⟨fun _ => ?_, fun _ => rfl⟩ s1)
      rw [Bool.or_eq_true, Bool.and_eq_true, Bool.and_eq_true, decide_eq_true_iff, decide_eq_true_iff, decide_eq_true_iff, mem_sts, mem_sts] at hb
      rcases hb with ⟨⟨x, tl, h1, h2⟩, h3⟩ | ⟨⟨x, tl, h1, h2⟩, h3⟩
      · exact .inl ⟨x, tl, h1, h2, h3⟩
      · exact .inr (.inl ⟨x, tl, h1, h2, h3⟩)
    · refine st_rt (ex_op1 (val_var (i := 1) rfl) (ex_c1 val_c (ex_c1 val_c (ta_nil ⟨by show 2 ≤ sizeLine; decide, fun p hp => eq_ll (upd_at hD hp) upd_same (stV_sc _) (stV_sc [.closed, .closed]) ?_⟩))))
      refine k _ _ ?_ (s1.trans (Same.new hp))
      rw [decide_eq_true_iff, sts_closed]
      refine ⟨fun h => .inr (.inr h), fun h => ?_⟩
      rw [Bool.or_eq_false_iff, Bool.and_eq_false_iff, Bool.and_eq_false_iff, decide_eq_false_iff_not, decide_eq_false_iff_not, decide_eq_false_iff_not, mem_sts, mem_sts] at hb
      rcases h with ⟨x, tl, h1, h2, h3⟩ | ⟨x, tl, h1, h2, h3⟩ | h
      · exact absurd hb.1 (fun q => q.elim (fun q => q ⟨x, tl, h1, h2⟩) (fun q => q h3))
      · exact absurd hb.2 (fun q => q.elim (fun q => q ⟨x, tl, h1, h2⟩) (fun q => by rw [h3] at q; cases q))
      · exact h
end
end SW
end
section
set_option maxRecDepth 100000
set_option maxHeartbeats 4000000
/-! The law: both ends come to their ending. -/
namespace SW
open PySem PySem.Spec PyProof.Rows L2
/-- a list of tuples of numbers -/
def tupD (ns : List Nat) : PyData := .tuple ((ns.map nV).map toD)
theorem dp_tupD {K : PySem.W.Frag} {H : Hp} {a : Addr} {ns : List Nat} (h : H a = some (.tup (ns.map nV))) : Dp K H (.ref a) (tupD ns) := .tup (SqT.of h) (dps_sc sc_nV)
theorem eqv_tupD (ns : List Nat) : PyData.eqv (tupD ns) (tupD ns) = true := by
  show PyData.eqvAll _ _ = true
  rw [eqvAll_sc sc_nV sc_nV]
  exact decide_eq_true rfl
theorem lay_tupD (ns : List Nat) : PyData.canLay0 (tupD ns) = true := by
  show PyData.canLayAll0 _ = true
  exact lay_sc sc_nV
theorem depth_tupD (ns : List Nat) : PyData.depth (tupD ns) = 1 := by
  show PyData.depthAll _ + 1 = 1
  rw [depths_sc]
theorem shaped_two (a b : List Nat) : SeqAt.shaped (.list [tupD a, tupD b]) = true := by
  show ((PyData.canLay0 (tupD a) && (PyData.canLay0 (tupD b) && true)) && decide (max (PyData.depth (tupD a)) (max (PyData.depth (tupD b)) 0) + 1 ≤ 64)) = true
  rw [lay_tupD, lay_tupD, depth_tupD, depth_tupD]
  rfl
theorem eqv_two (a b : List Nat) : PyData.eqv (.list [tupD a, tupD b]) (.list [tupD a, tupD b]) = true := by
  show (PyData.eqv (tupD a) (tupD a) && (PyData.eqv (tupD b) (tupD b) && true)) = true
  rw [eqv_tupD, eqv_tupD]
  rfl
/-- has != wrote[::-1] -/
theorem anss_hw {K : PySem.W.Frag} {σ : L2.St} {H : Hp} {A : Wa} {w : Wd} {ta tb : TE} (W : WorldAt K H A w) (ha : Val ta σ H (.ref A.lh)) (hb : Val tb σ H (.ref A.lw)) (e : ∀ y, w.has y = w.wrote !y) : AnsS (tTest (tOp (rNeD K) ta (tRevL K tb))) σ H false := fun Q q => by
  refine ex_op1 ha (hb _ ⟨A.lw, _, rfl, SqL.of W.wr, fun p hp => ?_⟩)
  have s := Same.new (o := .lst [V.ref (A.w true), V.ref (A.w false)]) hp
  have W1 := W.same s
  have h0 := W1.wt true
  have h1 := W1.wt false
  have g0 := W1.ht false
  have g1 := W1.ht true
  rw [e false] at g0
  rw [e true] at g1
  have d1 : Dp K (upd H p (.lst [V.ref (A.w true), V.ref (A.w false)])) (.ref A.lh) (.list [tupD (w.wrote true), tupD (w.wrote false)]) := .lst (SqL.of W1.hs) (.cons (dp_tupD g0) (.cons (dp_tupD g1) .nil))
  have d2 : Dp K (upd H p (.lst [V.ref (A.w true), V.ref (A.w false)])) (.ref p) (.list [tupD (w.wrote true), tupD (w.wrote false)]) := .lst (SqL.of upd_same) (.cons (dp_tupD h0) (.cons (dp_tupD h1) .nil))
  refine ⟨_, _, d1, d2, shaped_two _ _, shaped_two _ _, ?_⟩
  rw [eqv_two]
  exact ⟨_, rfl, q _ s⟩
section
open Classical
noncomputable def endB (w : Wd) : Bool := decide (Ended w)
theorem endB_eq {w : Wd} {b : Bool} (h : b = true ↔ Ended w) : b = endB w := by
  unfold endB
  rw [Bool.eq_iff_iff, h, decide_eq_true_iff]
theorem endB_true {w : Wd} (h : endB w = true) : Ended w := by
  unfold endB at h
  exact of_decide_eq_true h
theorem endB_false {w : Wd} (h : endB w = false) : ¬ Ended w := by
  unfold endB at h
  exact of_decide_eq_false h
end
noncomputable def Wd.finsN (w : Wd) : Nat → Wd
  | 0 => w
  | 1 => w.finish false
  | _ => (w.finish false).finish true
theorem finsN_step (w : Wd) {i : Nat} (h : i < 2) : ∃ x : Bool, [false, true][i]? = some x ∧ w.finsN (i + 1) = (w.finsN i).finish x := by
  match i, h with
  | 0, _ => exact ⟨false, rfl, rfl⟩
  | 1, _ => exact ⟨true, rfl, rfl⟩
theorem finsN_good {w : Wd} (G : WGood w) : ∀ i, WGood (w.finsN i)
  | 0 => G
  | 1 => G.finish false
  | i + 2 => (G.finish false).finish true
theorem finsN_talk (w : Wd) (x : Bool) : ∀ i, (w.finsN i).talk x = none ↔ w.talk x = none
  | 0 => Iff.rfl
  | 1 => (finish_rest w false).2.2.2.2.2.1 x
  | i + 2 => ((finish_rest (w.finish false) true).2.2.2.2.2.1 x).trans ((finish_rest w false).2.2.2.2.2.1 x)
theorem tks_iff {A : Wa} {w v : Wd} {x : Bool} (h : v.talk x = none ↔ w.talk x = none) : A.tks v x = A.tks w x := by
  cases e : w.talk x with
  | none => rw [Wa.tks_none e, Wa.tks_none (h.mpr e)]
  | some t =>
    cases e2 : v.talk x with
    | none => rw [h.mp e2] at e; cases e
    | some t2 => rw [Wa.tks_some e, Wa.tks_some e2]
theorem head_good {w : Wd} (h : Head w) : WGood w := ⟨h.inv, fun x s hs => by
  have : w.road x = [] := by cases x; exact h.empty.1; exact h.empty.2
  rw [this] at hs; cases hs⟩
def spEnds (K : PySem.W.Frag) : Sp := fun vs H Q _ => ∃ (A : Wa) (w : Wd) (J : Wd → Prop), vs = [.ref A.aw] ∧ WorldAt K H A w ∧ WGood w ∧ w.len 1900000 ∧ (∀ x, (w.wrote x).length ≤ 5000) ∧
  (∀ k, (w.run k).empty → J (w.run k).reads) ∧ (∀ v k, J v → ¬ Ended v → (v.tick.run k).empty → J (v.tick.run k).reads) ∧ (∀ v, J v → LG w.now w.wrote v) ∧
  ∀ A' w' H', J w' → Ended w' → WorldAt K H' A' w' → WStp H H' A w A' w' → Q (.bl true) H'
section
variable {P : Program} {w : World} {K : PySem.W.Frag} {mg : Str → Option Value} {base : Heap}
theorem ok_L_ends_right (S : Says K mg) (F_L_all_come : Fn P w K mg base 9 "_law_all_come" ["_law_world"] (spAll K)) (F_L_ended : Fn P w K mg base 4 "_law_ended" ["_law_world"] (spEnded K)) (F_L_right : Fn P w K mg base 4 "_law_right" ["_law_world"] (spRight K)) (F_Talk_finish : Mt P w K mg base 5 "Talk" "finish" ["self"] (spKFinish K)) (F_L_ticked : Fn P w K mg base 8 "_law_ticked" ["_law_world", "_law_many"] (spTicked K)) (F_Talk_stand : Mt P w K mg base 3 "Talk" "stand" ["self"] (spKStand K)) : Fn P w K mg base 10 "_law_ends_right" ["_law_world"] (spEnds K) := by
  obtain ⟨fd, F⟩ := S.u_L_ends_right
  have sc : FnScope ["_law_world", "_law_left", "_law_most", "_law_talk", "_law_end"] ["_law_world"] (defScope s_L_ends_right) := ⟨rfl, rfl, rfl, by decide +kernel, rfl, by decide +kernel, by decide +kernel⟩
  refine ⟨⟨fd, F.ok sc (fun vs H Q E h => ?_) (fun cdv A outer s H vs Q E hr h => ⟨_, PSs.nox (pss_cons (ps_expr (pe_fn F_L_all_come (hr.mono (by decide)) (pa_cons (pv 0) pa_nil)))
      (pss_cons (ps_set (i := 1) sc.nd rfl (Or.inl rfl) (pe_op op_add (pe_op op_add (pe_callB call_len rfl S.f_len boot_len (pa_cons (pe_ix ix_list (pe_dget (hu_of hr) (pv 0) pe_str (fun _ _ => rfl)) pe_int (fun _ _ => rfl)) pa_nil)) (pe_callB call_len rfl S.f_len boot_len (pa_cons (pe_ix ix_list (pe_dget (hu_of hr) (pv 0) pe_str (fun _ _ => rfl)) pe_int (fun _ _ => rfl)) pa_nil))) pe_int))
      (pss_cons (ps_set (i := 2) sc.nd rfl (Or.inl rfl) (pe_op op_add (pe_dget (hu_of hr) (pv 0) pe_str (fun _ _ => rfl)) (pe_op op_mul (pe_op op_add (pv 1) pe_int) pe_int)))
      (pss_cons (ps_while PassesOwn.never (pt_not (pt_val (pe_fn F_L_ended (hr.mono (by decide)) (pa_cons (pv 0) pa_nil)))) (pss_cons (ps_if (PW.pt (pw_or (pt_cmpR op_gt (pe_dget (hu_of hr) (pv 0) pe_str (fun _ _ => rfl)) (pv 2) (nomark _)) (pw_or1 (pt_not (pt_val (pe_fn F_L_right (hr.mono (by decide)) (pa_cons (pv 0) pa_nil))))))) (pss_one (ps_ret pe_bl)) pss_nil)
      (pss_cons (ps_for PassesOwn.never rfl (pi_list (pe_dget (hu_of hr) (pv 0) pe_str (fun _ _ => rfl))) (pg_name (i := 3) sc.nd rfl (Or.inl rfl)) (pss_one (ps_if (pt_cmpR op_notN (pv 3) pe_non (nomark _)) (pss_one (ps_expr (pe_mt0 (pv 3) F_Talk_finish (hr.mono (by decide))))) pss_nil)))
      (pss_cons (ps_expr (pe_fn F_L_ticked (hr.mono (by decide)) (pa_cons (pv 0) (pa_cons pe_int pa_nil))))
      (pss_one (ps_expr (pe_fn F_L_all_come (hr.mono (by decide)) (pa_cons (pv 0) pa_nil))))))))
      (pss_cons (ps_for PassesOwn.never rfl (pi_range1 rfl S.f_range (pa_cons pe_int pa_nil)) (pg_name (i := 4) sc.nd rfl (Or.inl rfl)) (pss_one (ps_if (PW.pt (pw_and (pt_cmpR op_notN (pe_ix ix_list (pe_dget (hu_of hr) (pv 0) pe_str (fun _ _ => rfl)) (pv 4) (fun _ _ => rfl)) pe_non (nomark _)) (pw_and1 (pt_cmpR op_eq (pe_mt0 (pe_ix ix_list (pe_dget (hu_of hr) (pv 0) pe_str (fun _ _ => rfl)) (pv 4) (fun _ _ => rfl)) F_Talk_stand (hr.mono (by decide))) pe_str (nomark _))))) (pss_one (ps_if (pt_cmpR (op_neD hr.units) (pe_dget (hu_of hr) (pv 0) pe_str (fun _ _ => rfl)) (pe_revL (pe_dget (hu_of hr) (pv 0) pe_str (fun _ _ => rfl))) (nomark _)) (pss_one (ps_ret pe_bl)) pss_nil)) pss_nil)))
      (pss_one (ps_ret (pe_fn F_L_right (hr.mono (by decide)) (pa_cons (pv 0) pa_nil))))))))), ?_⟩), F.bindsN (fun _ _ _ _ _ _ us hl => match us, hl with | [_], _ => rfl)⟩, F.kp, S.g__law_ends_right⟩
  · obtain ⟨_, _, _, rfl, _⟩ := h
    rfl
  · obtain ⟨A, w, J, rfl, W, G, hl, hw, J0, Jn, Jl, k⟩ := h
    refine sq_dr (ex_fn (arg_cons (val_var rfl) arg_nil) ⟨A, w, rfl, W, G, hl, fun x => Nat.le_trans (hw x) (by decide), fun A1 k1 H1 hem W1 s1 => ?_⟩)
    have j1 := J0 k1 hem
    have hnow1 : (w.run k1).reads.now = w.now := by rw [(reads_facts (w.run k1)).2.1, (run_plain w k1).1]
    have ea : A1.aw = A.aw := s1.aw
    generalize (w.run k1).reads = v1 at *
    have hwr1 : v1.wrote = w.wrote := (Jl v1 j1).wrote
    have vl : ∀ (x : Bool) (i : Int), i = eI x → Val (tCB (fun xs H Q => ∃ x n, xs = [x] ∧ LenV K x H n ∧ Q (.int n) H) (tCons (tOp (rIxL K) (tDGet (tVar 0) (tC (.str "wrote"))) (tC (.int i))) tNil)) (L2.start ["_law_world", "_law_left", "_law_most", "_law_talk", "_law_end"] [V.ref A.aw]) H1 (.int ((w.wrote x).length : Nat)) := fun x i hi => by
      subst hi
      have := val_len_tup (K := K) (σ := L2.start ["_law_world", "_law_left", "_law_most", "_law_talk", "_law_end"] [V.ref A.aw]) (val_ix (K := K) (val_dget (k := .inr "wrote") (val_to (y := .ref A1.aw) (val_var (i := 0) rfl) (by rw [ea])) val_c W1.dic rfl wd_wrote) val_c W1.wr (at_pair (fun y => V.ref (A1.w y)) x)) (SqT.of (W1.wt x))
      rw [List.length_map, hwr1] at this
      exact this
    refine sq_av (v := .int (((w.wrote false).length + (w.wrote true).length + 4 : Nat) : Int)) (val_to (val_add (val_add (vl false 0 rfl) (vl true 1 rfl)) val_c) (by rw [Int.natCast_add, Int.natCast_add]; rfl)) ?_
    refine sq_av (v := .int ((w.now + ((w.wrote false).length + (w.wrote true).length + 4 + 8) * 100 : Nat) : Int)) (val_to (val_add (val_dget (k := .inr "now") (val_to (y := .ref A1.aw) (val_var (i := 0) rfl) (by rw [ea])) val_c W1.dic rfl wd_now) (val_mul (val_add (val_var (i := 1) rfl) val_c) val_c (.inr (by decide +kernel)))) (by rw [hnow1]; exact congrArg V.int (by omega))) ?_
    clear vl
    obtain ⟨most, hmost⟩ : ∃ most, most = w.now + ((w.wrote false).length + (w.wrote true).length + 4 + 8) * 100 := ⟨_, rfl⟩
    rw [← hmost]
    obtain ⟨left, hleft⟩ : ∃ left, left = (w.wrote false).length + (w.wrote true).length + 4 := ⟨_, rfl⟩
    rw [← hleft]
    refine sq_whileS (fun m σ H' => ∃ z3 z4 A' v, σ = [some (V.ref A.aw), some (V.int left), some (V.int most), z3, z4] ∧ WorldAt K H' A' v ∧ WStp H H' A w A' v ∧ J v ∧ m = most + 1 - v.now) (most + 1 - v1.now) ⟨none, none, A1, v1, rfl, W1, s1, j1, rfl⟩ ?_
    clear W1 s1 j1 hnow1 ea hwr1 hem
    rintro m σ H2 ⟨z3, z4, A2, v, rfl, W2, s2, jv, hm⟩
    have ea : A2.aw = A.aw := s2.aw
    rw [← ea]
    have L := Jl v jv
    have Hd := L.hd
    have I := Hd.inv
    refine ⟨!endB v, anss_not (anss_val fun Q q => ex_fn (arg_cons (val_var (i := 0) rfl) arg_nil) ⟨A2, v, rfl, W2, I, fun b H' hb s => by rw [endB_eq hb]; exact q H' s⟩), fun hb H3 s3 N hN => ?_, fun hb H3 s3 => ?_⟩
    · have hE : ¬ Ended v := endB_false (by simpa using hb)
      have hbound := L.bound hE
      have W3 := W2.same s3
      refine sq_noS (anss_or2 (b1 := false) (b2 := false) (Ans.mk_s (ans_rI0 (val_dget (k := .inr "now") (val_var (i := 0) rfl) val_c W3.dic rfl wd_now) (val_var (i := 2) rfl) (congrArg V.bl (decide_eq_false (by omega))))) fun H' s => anss_not (b := true) (anss_val fun Q q => ex_fn (arg_cons (val_var (i := 0) rfl) arg_nil) ⟨A2, v, rfl, W3.same s, I, fun H'' s' => q H'' s'⟩)) fun H4 s4 => ?_
      have W4 := W3.same s4
      have s4 := (s2.trans (WStp.same s3)).trans (WStp.same s4)
      clear W2 W3 s2 s3
      have Gv := head_good Hd
      refine sq_forL (val_dget (k := .inr "talks") (val_var (i := 0) rfl) val_c W4.dic rfl wd_talks) W4.lst (fun i σ H' => ∃ z3 z4, σ = [some (V.ref A2.aw), some (V.int left), some (V.int most), z3, z4] ∧ WorldAt K H' A2 (v.finsN i) ∧ WStp H H' A w A2 (v.finsN i)) ⟨z3, z4, rfl, W4, s4⟩ ?_ ?_ ?_
      · rintro i σ H5 hi ⟨z3, z4, rfl, W5, s5⟩
        have := W5.lst
        rw [tks_iff (finsN_talk v false i), tks_iff (finsN_talk v true i)] at this
        exact this
      · rintro i y σ H5 hi hy ⟨z3, z4, rfl, W5, s5⟩
        obtain ⟨x, ex, es⟩ := finsN_step v hi
        have hyx : y = A2.tks (v.finsN i) x := by
          have h : [A2.tks v false, A2.tks v true][i]? = ([false, true][i]?).map (A2.tks v) := by
            have hi : i < 2 := hi
            match i, hi with
            | 0, _ => rfl
            | 1, _ => rfl
          rw [h, ex] at hy
          rw [tks_iff (finsN_talk v x i)]
          exact (Option.some.inj hy).symm
        have G5 := finsN_good Gv i
        rw [es]
        generalize v.finsN i = u at *
        show _
        cases e : u.talk x with
        | none =>
          rw [Wa.tks_none e] at hyx
          subst hyx
          rw [finish_none e]
          exact st_no (ans_notN' (val_var (i := 3) rfl) rfl) (st_next ⟨_, _, rfl, W5, s5⟩)
        | some tl =>
          rw [Wa.tks_some e] at hyx
          subst hyx
          have T5 := W5.tl e
          obtain ⟨tv, KT5⟩ := id T5
          obtain ⟨fit, f2, f3, f4, f5, _⟩ := G5.inv.fit e
          rw [finish_some e]
          refine st_yes (ans_notN' (val_var (i := 3) rfl) rfl) (st_dr (ex_mt (val_var (i := 3) rfl) KT5.ob (by kernel_rfl) arg_nil ⟨_, _, tl, rfl, T5, fit.ok, f5, fun H6 T6 st6 => ?_⟩))
          exact ⟨_, _, rfl, W5.talk0 e st6 T6, s5.trans (WStp.talk0 e st6)⟩
      · rintro σ H5 ⟨z3, z4, rfl, W5, s5⟩
        have G5 : WGood v.fins := finsN_good Gv 2
        have hroad : ∀ x, v.fins.road x = [] := fun x => by
          have h1 := (finish_rest v false).1
          have h2 := (finish_rest (v.finish false) true).1
          show ((v.finish false).finish true).road x = []
          rw [h2, h1]
          cases x
          · exact Hd.empty.1
          · exact Hd.empty.2
        have hlf : v.fins.len 0 := fun x => by rw [hroad]; exact Nat.le_refl _
        refine sq_dr (ex_fn (arg_cons (val_var (i := 0) rfl) (arg_cons (val_c (v := .int (1 : Nat))) arg_nil)) ⟨A2, v.fins, 1, rfl, W5, G5.tkOk (hlf.mono (by decide)) 1, fun A6 H6 W6 s6 => ?_⟩)
        have W6 : WorldAt K H6 A6 v.tick := W6
        have ea6 : A6.aw = A2.aw := s6.aw
        have G6 : WGood v.tick := G5.ticked 1
        have hl6 : v.tick.len 12002 := (len_ticked G5.inv hlf 1).mono (by decide)
        have hwr6 : v.tick.wrote = w.wrote := (tick_facts v).2.2.1.trans L.wrote
        refine st_dr (ex_fn (arg_cons (val_to (y := .ref A6.aw) (val_var (i := 0) rfl) (by rw [ea6])) arg_nil) ⟨A6, v.tick, rfl, W6, G6, hl6.mono (by decide), fun x => by rw [hwr6]; exact Nat.le_trans (hw x) (by decide), fun A7 k7 H7 hem7 W7 s7 => ?_⟩)
        have hnow7 : (v.tick.run k7).reads.now = v.now + 1 := by rw [(reads_facts (v.tick.run k7)).2.1, (run_plain v.tick k7).1, (tick_facts v).1]
        refine hN (most + 1 - (v.tick.run k7).reads.now) _ H7 (by rw [hnow7, hm]; omega) ⟨z3, z4, A7, _, rfl, W7, (s5.trans s6).trans s7, Jn v k7 jv hE hem7, rfl⟩
    · have hE : Ended v := endB_true (by simpa using hb)
      have W3 := W2.same s3
      have s3 := s2.trans (WStp.same s3)
      clear W2 s2
      refine sq_rng1 (n := 2) val_c (by decide) (fun i σ H' => ∃ z3 z4, σ = [some (V.ref A2.aw), some (V.int left), some (V.int most), z3, z4] ∧ Same H3 H') ⟨z3, z4, rfl, Same.refl H3⟩ ?_ ?_
      · rintro i σ H4 hi ⟨z3, z4, rfl, s4⟩
        obtain ⟨x, ex⟩ := eI_of hi
        rw [ex]
        show _
        have W4 := W3.same s4
        have vt : ∀ σ : L2.St, σ[0]? = some (some (.ref A2.aw)) → σ[4]? = some (some (.int (eI x))) → Val (tOp (rIxL K) (tDGet (tVar 0) (tC (.str "talks"))) (tVar 4)) σ H4 (A2.tks v x) := fun σ h0 h1 => val_ix (val_dget (k := .inr "talks") (val_var h0) val_c W4.dic rfl wd_talks) (val_var h1) W4.lst (at_pair (A2.tks v) x)
        cases e : v.talk x with
        | none => exact st_no (ans_and0 (ans_notN' (vt _ rfl rfl) (by rw [Wa.tks_none e]; rfl))) (st_next ⟨_, _, rfl, s4⟩)
        | some tl =>
          have T4 := W4.tl e
          obtain ⟨tv, KT4⟩ := id T4
          have fit := (I.fit e).1
          have hst : ∀ t : Stand, decide (V.str (standS t) = V.str "closed") = decide (t = .closed) := fun t => by cases t <;> decide +kernel
          refine st_if (b := decide (tl.stand = .closed)) (ans_and (ans_notN' (vt _ rfl rfl) (by rw [Wa.tks_some e]; rfl)) (ans_eqS (val_mt (val_to (vt _ rfl rfl) (Wa.tks_some e)) KT4.ob (by kernel_rfl) arg_nil fun Q q => ⟨_, _, tl, rfl, T4, fit.ok, q⟩) val_c rfl (hst _))) (fun hc => ?_) (fun hc => st_next ⟨_, _, rfl, s4⟩)
          have hhas := closed_has Hd e (of_decide_eq_true hc)
          exact st_noS (anss_hw W4 (val_dget (k := .inr "has") (val_var (i := 0) rfl) val_c W4.dic rfl wd_has) (val_dget (k := .inr "wrote") (val_var (i := 0) rfl) val_c W4.dic rfl wd_wrote) hhas) fun H5 s5 => st_next ⟨_, _, rfl, s4.trans s5⟩
      · rintro σ H4 ⟨z3, z4, rfl, s4⟩
        have W4 := W3.same s4
        exact st_rt (ex_fn (arg_cons (val_var (i := 0) rfl) arg_nil) ⟨A2, v, rfl, W4, I, fun H5 s5 => k A2 v H5 jv hE (W4.same s5) ((s3.trans (WStp.same s4)).trans (WStp.same s5))⟩)
end
end SW
end
section
set_option maxRecDepth 100000
set_option maxHeartbeats 4000000
/-! The law: a world begins. -/
namespace SW
open PySem PySem.Spec PyProof.Rows L2
section
variable {K : PySem.W.Frag} {σ : L2.St} {H : Hp} {ta te tv : TE} {u2 : TS} {D : Ends} {r : List (TE × TE)} {Q : List (V × V) → Hp → Prop} {k : Str}
theorem tp_c (q : tv σ H fun y H2 => tPairs r σ H2 fun ps H3 => Q ((.str k, y) :: ps) H3) : tPairs ((tC (.str k), tv) :: r) σ H Q := q
theorem tp_n (q : Q [] H) : tPairs [] σ H Q := q
theorem sq_dpu (q : tv σ H fun v H1 => ta σ H1 fun x H2 => te σ H2 fun y H3 => ∃ a H4, x = .ref a ∧ DPut H3 a y v H4 ∧ u2 D σ H4) : tSeq (sDPut ta te tv) u2 D σ H := q
theorem ex_makeD {C : Addr} {sp : Sp} {tt : TA} {vs ds : List V} {Q : VK} (hv : ArgV tt σ H vs) (q : ∀ x dx, H x = none → H dx = none → dx ≠ x → sp (.ref x :: (vs ++ ds)) (upd (upd H dx (.own x)) x (.ins C dx [])) (fun v H2 => v = .non ∧ Q (.ref x) H2) E0) : tMake C sp ds E0 tt σ H Q := hv _ fun x dx h1 h2 h3 => q x dx h1 h2 h3
end
/-- laid one behind the other -/
structure Alloc (L : List Addr) (H : Hp) : Prop where
  nd : L.Nodup
  al : ∀ q ∈ L, H q ≠ none
theorem Alloc.new {L : List Addr} {H : Hp} {p : Addr} {o : HO} (h : Alloc L H) (hp : H p = none) : Alloc (p :: L) (upd H p o) := by
  refine ⟨List.nodup_cons.mpr ⟨fun q => h.al p q hp, h.nd⟩, fun q hq => ?_⟩
  rcases List.mem_cons.mp hq with e | e
  · rw [e, upd_same]; exact fun z => nomatch z
  · cases e2 : H q with
    | none => exact absurd e2 (h.al q e)
    | some o2 =>
      by_cases c : q = p
      · rw [c, upd_same]; exact fun z => nomatch z
      · rw [upd_ne c, e2]; exact fun z => nomatch z
theorem Alloc.fr {L F : List Addr} {H H' : Hp} (h : Alloc L H) (f : Fr F H H') (hF : ∀ q ∈ L, q ∈ F → H' q ≠ none) : Alloc L H' := ⟨h.nd, fun q hq => by
  by_cases c : q ∈ F
  · exact hF q hq c
  · cases e : H q with
    | none => exact absurd e (h.al q hq)
    | some o => rw [f q o e c]; exact fun z => nomatch z⟩
theorem Alloc.same {L : List Addr} {H H' : Hp} (h : Alloc L H) (f : Same H H') : Alloc L H' := ⟨h.nd, fun q hq => by
  cases e : H q with
  | none => exact absurd e (h.al q hq)
  | some o => rw [f q o e]; exact fun z => nomatch z⟩
theorem Alloc.up {L : List Addr} {H : Hp} {p : Addr} {o : HO} (h : Alloc L H) : Alloc L (upd H p o) := h.fr Fr.up fun q _ hq => by rw [List.mem_singleton.mp hq, upd_same]; exact fun z => nomatch z
theorem ls_nodup {lo lt lh lw lr l1 l0 p : Addr} (h : [lo, lt, lh, lw, lr, l1, l0, p].Nodup) : [p, lr, lw, lh, lt, lo, l0, l1].Nodup := by
  simp only [List.nodup_cons, List.mem_cons, List.not_mem_nil, or_false, not_or] at h ⊢
  obtain ⟨⟨a1, a2, a3, a4, a5, a6, a7⟩, ⟨b1, b2, b3, b4, b5, b6⟩, ⟨c1, c2, c3, c4, c5⟩, ⟨d1, d2, d3, d4⟩, ⟨e1, e2, e3⟩, ⟨f1, f2⟩, g1, _⟩ := h
  have sy : ∀ {x y : Addr}, ¬ x = y → ¬ y = x := fun h e => h e.symm
  exact ⟨⟨sy e3, sy d4, sy c5, sy b6, sy a7, sy g1, sy f2⟩, ⟨sy d1, sy c2, sy b3, sy a4, e2, e1⟩, ⟨sy c1, sy b2, sy a3, d3, d2⟩, ⟨sy b1, sy a2, c4, c3⟩, ⟨sy a1, b5, b4⟩, ⟨a6, a5⟩, sy f1, by simp⟩
def two {α : Type} (a b : α) : Bool → α := fun x => if x = true then b else a
def spBegun (K : PySem.W.Frag) : Sp := fun vs H Q _ => ∃ (a : Addr) (ns : List Int), vs = [.ref a] ∧ SqL K H a (ns.map V.int) ∧
  ∀ (A : Wa) (port first : Bool → Nat) H', (∀ x, port x < 256) → (∀ x, first x < 4294967296) → WorldAt K H' A (Wd.begun port first) → (∀ b ∈ A.mut (Wd.begun port first), H b = none) → Same H H' → Q (.ref A.aw) H'
section
variable {P : Program} {w : World} {K : PySem.W.Frag} {mg : Str → Option Value} {base : Heap}
theorem ok_L_begun (S : Says K mg) (F_L_draw : Fn P w K mg base 2 "_law_draw" ["_law_script", "_law_k", "_law_count"] (spDraw K)) (F_L_next : Fn P w K mg base 2 "_law_next" ["_law_draw_here", "_law_size"] spNext) (F_L_first : Fn P w K mg base 3 "_law_first" ["_law_draw_here"] spFirst) (F_Talk4 : Mr P w K mg base 5 "Talk" ["self", "here", "there", "first", "tick", "opening"] [.non] (spKInit4 K)) : Fn P w K mg base 7 "_law_begun" ["_law_script"] (spBegun K) := by
  obtain ⟨fd, F⟩ := S.u_L_begun
  have sc : FnScope ["_law_script", "_law_draw_here", "_law_ports", "_law_firsts", "_law_world"] ["_law_script"] (defScope s_L_begun) := ⟨rfl, rfl, rfl, by decide +kernel, rfl, by decide +kernel, by decide +kernel⟩
  refine ⟨⟨fd, F.ok sc (fun vs H Q E h => ?_) (fun cdv A outer s H vs Q E hr h => ⟨_, PSs.nox (pss_cons (ps_set (i := 1) sc.nd rfl (Or.inl rfl) (pe_fn F_L_draw (hr.mono (by decide)) (pa_cons (pv 0) (pa_cons pe_int (pa_cons pe_int pa_nil)))))
      (pss_cons (ps_set (i := 2) sc.nd rfl (Or.inl rfl) (pe_tup (pa_cons (pe_fn F_L_next (hr.mono (by decide)) (pa_cons (pv 1) (pa_cons pe_int pa_nil))) (pa_cons (pe_fn F_L_next (hr.mono (by decide)) (pa_cons (pv 1) (pa_cons pe_int pa_nil))) pa_nil))))
      (pss_cons (ps_set (i := 3) sc.nd rfl (Or.inl rfl) (pe_tup (pa_cons (pe_fn F_L_first (hr.mono (by decide)) (pa_cons (pv 1) pa_nil)) (pa_cons (pe_fn F_L_first (hr.mono (by decide)) (pa_cons (pv 1) pa_nil)) pa_nil))))
      (pss_cons (ps_set (i := 4) sc.nd rfl (Or.inl rfl) (pe_disp (pps_cons pe_str (pv 2) (pps_cons pe_str (pv 3) (pps_cons pe_str (pe_lst (pa_cons (pe_lst pa_nil) (pa_cons (pe_lst pa_nil) pa_nil))) (pps_cons pe_str (pe_lst (pa_cons (pe_tup pa_nil) (pa_cons (pe_tup pa_nil) pa_nil))) (pps_cons pe_str (pe_lst (pa_cons (pe_tup pa_nil) (pa_cons (pe_tup pa_nil) pa_nil))) (pps_cons pe_str pe_int pps_nil)))))) (by rfl) (by rfl) (fun z => by cases z) (by decide)))
      (pss_cons (ps_dput (hu_of hr) (pv 4) pe_str (pe_lst (pa_cons (pe_mr F_Talk4 (hr.mono (by decide)) (pa_cons (pe_ix ix_tup (pv 2) pe_int (fun _ _ => rfl)) (pa_cons (pe_ix ix_tup (pv 2) pe_int (fun _ _ => rfl)) (pa_cons (pe_ix ix_tup (pv 3) pe_int (fun _ _ => rfl)) (pa_cons pe_int pa_nil))))) (pa_cons pe_non pa_nil))) rfl)
      (pss_cons (ps_dput (hu_of hr) (pv 4) pe_str (pe_lst (pa_cons pe_bl (pa_cons pe_bl pa_nil))) rfl)
      (pss_cons (ps_dput (hu_of hr) (pv 4) pe_str pe_bl rfl)
      (pss_one (ps_ret (pv 4)))))))))), ?_⟩), F.bindsN (fun _ _ _ _ _ _ us hl => match us, hl with | [_], _ => rfl)⟩, F.kp, S.g__law_begun⟩
  · obtain ⟨_, _, rfl, _⟩ := h
    rfl
  · obtain ⟨a, ns, rfl, hns, k⟩ := h
    refine sq_as (ex_fn (arg_cons (val_var rfl) (arg_cons (val_c (v := .int (0 : Nat))) (arg_cons val_c arg_nil))) ⟨a, 0, ns, 0, rfl, hns, fun b H1 hb s1 d1 => ?_⟩)
    refine sq_as (ex_ce (ex_fn (arg_cons (val_var rfl) (arg_cons (val_c (v := .int (256 : Nat))) arg_nil)) ⟨b, 256, rfl, d1, by decide, by decide, fun p0 H2 hp0 F2 d2 => ex_ce (ex_fn (arg_cons (val_var rfl) (arg_cons (val_c (v := .int (256 : Nat))) arg_nil)) ⟨b, 256, rfl, d2, by decide, by decide, fun p1 H3 hp1 F3 d3 => ta_nil ⟨by show 2 ≤ sizeLine; decide, fun ap hap => ?_⟩⟩)⟩))
    have S3 : Same H H3 := Fr.same1 (((Fr.same s1).trans F2).trans F3) hb
    have hapb : ap ≠ b := fun q => d3.ne (by rw [← q]; exact hap)
    have d4 := d3.same (Same.new (o := .tup [.int p0, .int p1]) hap)
    refine sq_as (ex_ce (ex_fn (arg_cons (val_var rfl) arg_nil) ⟨b, rfl, d4, fun f0 H5 hf0 F5 d5 => ex_ce (ex_fn (arg_cons (val_var rfl) arg_nil) ⟨b, rfl, d5, fun f1 H6 hf1 F6 d6 => ta_nil ⟨by show 2 ≤ sizeLine; decide, fun af haf => ?_⟩⟩)⟩))
    have F36 : Fr [b] H3 H6 := ((Fr.same (Same.new (o := .tup [.int p0, .int p1]) hap)).trans F5).trans F6
    have S6 : Same H H6 := Fr.same1 ((Fr.same S3).trans F36) hb
    have ha6 : H6 ap = some (.tup [.int p0, .int p1]) := F6 _ _ (F5 _ _ upd_same (by simp [hapb])) (by simp [hapb])
    have s7 := Same.new (o := .tup [.int f0, .int f1]) haf
    have S7 := S6.trans s7
    have ha7 := s7 _ _ ha6
    have hf7 : (upd H6 af (.tup [.int f0, .int f1])) af = some (.tup [.int f0, .int f1]) := upd_same
    obtain ⟨H7, e7⟩ : ∃ H7, H7 = upd H6 af (.tup [.int f0, .int f1]) := ⟨_, rfl⟩
    rw [← e7] at s7 S7 ha7 hf7 ⊢
    clear e7 s7 ha6 S6 F36 S3 F6 F5 F3 F2 s1 d1 d2 d3 d4 d5 d6 haf hap hapb hb
    refine sq_as fun p hp => ?_
    have hpH : H p = none := S7.free hp
    have al0 : Alloc [p] (upd H7 p (.dK [])) := ⟨by simp, fun q hq => by rw [List.mem_singleton.mp hq, upd_same]; exact fun z => nomatch z⟩
    have S8 : Same H (upd H7 p (.dK [])) := S7.trans (Same.new hp)
    have s8 := Same.new (o := .dK []) hp
    refine tp_c (ex_v (val_var rfl) (tp_c (ex_v (val_var rfl) (tp_c (ex_ce (ta_nil ⟨by show 0 ≤ sizeLine; decide, fun l0 h0 => ex_ce (ta_nil ⟨by show 0 ≤ sizeLine; decide, fun l1 h1 => ta_nil ⟨by show 2 ≤ sizeLine; decide, fun lr hr => ?_⟩⟩)⟩))))))
    have a1 := Same.new (o := .lst []) h0
    have a2 := Same.new (o := .lst []) h1
    have a3 := Same.new (o := .lst [V.ref l0, V.ref l1]) hr
    have al3 := ((al0.new (o := .lst []) h0).new (o := .lst []) h1).new (o := .lst [V.ref l0, V.ref l1]) hr
    have SR := ((S8.trans a1).trans a2).trans a3
    refine tp_c (ex_ce (ta_nil ⟨by show 0 ≤ sizeLine; decide, fun t0 g0 => ex_ce (ta_nil ⟨by show 0 ≤ sizeLine; decide, fun t1 g1 => ta_nil ⟨by show 2 ≤ sizeLine; decide, fun lw hw => ?_⟩⟩)⟩))
    have b1 := Same.new (o := .tup []) g0
    have b2 := Same.new (o := .tup []) g1
    have b3 := Same.new (o := .lst [V.ref t0, V.ref t1]) hw
    have al6 := ((al3.same b1).same b2).new (o := .lst [V.ref t0, V.ref t1]) hw
    have SW_ := ((SR.trans b1).trans b2).trans b3
    refine tp_c (ex_ce (ta_nil ⟨by show 0 ≤ sizeLine; decide, fun t2 g2 => ex_ce (ta_nil ⟨by show 0 ≤ sizeLine; decide, fun t3 g3 => ta_nil ⟨by show 2 ≤ sizeLine; decide, fun lh hh => ?_⟩⟩)⟩))
    have c1 := Same.new (o := .tup []) g2
    have c2 := Same.new (o := .tup []) g3
    have c3 := Same.new (o := .lst [V.ref t2, V.ref t3]) hh
    have al9 := ((al6.same c1).same c2).new (o := .lst [V.ref t2, V.ref t3]) hh
    have SH := ((SW_.trans c1).trans c2).trans c3
    refine tp_c (ex_v val_c (tp_n ?_))
    have m9 := (b1.trans (b2.trans b3)).trans (c1.trans (c2.trans c3))
    have m6 := c1.trans (c2.trans c3)
    have m0 := (a1.trans (a2.trans a3)).trans m9
    have q_p := m0 p _ upd_same
    have q_ap := m0 ap _ (s8 _ _ ha7)
    have q_af := m0 af _ (s8 _ _ hf7)
    have q_l0 := m9 l0 _ (a3 _ _ (a2 _ _ upd_same))
    have q_l1 := m9 l1 _ (a3 _ _ upd_same)
    have q_lr := m9 lr _ upd_same
    have q_t0 := m6 t0 _ (b3 _ _ (b2 _ _ upd_same))
    have q_t1 := m6 t1 _ (b3 _ _ upd_same)
    have q_lw := m6 lw _ upd_same
    have q_t2 := c3 t2 _ (c2 _ _ upd_same)
    have q_t3 := c3 t3 _ upd_same
    have hl0 : H l0 = none := S8.free h0
    have hl1 : H l1 = none := (S8.trans a1).free h1
    have hlr : H lr = none := ((S8.trans a1).trans a2).free hr
    have hlw : H lw = none := ((SR.trans b1).trans b2).free hw
    have hlh : H lh = none := ((SW_.trans c1).trans c2).free hh
    obtain ⟨H9, e9⟩ : ∃ H9, H9 = (upd (upd (upd (upd (upd (upd (upd (upd (upd (upd H7 p (.dK [])) l0 (.lst [])) l1 (.lst [])) lr (.lst [V.ref l0, V.ref l1])) t0 (.tup [])) t1 (.tup [])) lw (.lst [V.ref t0, V.ref t1])) t2 (.tup [])) t3 (.tup [])) lh (.lst [V.ref t2, V.ref t3])) := ⟨_, rfl⟩
    have q_lh : H9 lh = some (.lst [V.ref t2, V.ref t3]) := by rw [e9]; exact upd_same
    rw [← e9] at q_p q_ap q_af q_l0 q_l1 q_lr q_t0 q_t1 q_lw q_t2 q_t3 al9 SH ⊢
    clear e9 m9 m6 m0 a1 a2 a3 b1 b2 b3 c1 c2 c3 al0 al3 al6 S8 s8 SR SW_ h0 h1 hr g0 g1 hw g2 g3 hh ha7 hf7 S7 hp H7
    refine ⟨q_p, [(.inr "ports", .ref ap), (.inr "firsts", .ref af), (.inr "roads", .ref lr), (.inr "wrote", .ref lw), (.inr "has", .ref lh), (.inr "now", .int 0)], rfl, by show 6 ≤ 15; decide, ?_⟩
    rw [show mergeK [] [((.inr "ports" : Key), V.ref ap), (.inr "firsts", .ref af), (.inr "roads", .ref lr), (.inr "wrote", .ref lw), (.inr "has", .ref lh), (.inr "now", .int 0)] = [((.inr "ports" : Key), V.ref ap), (.inr "firsts", .ref af), (.inr "roads", .ref lr), (.inr "wrote", .ref lw), (.inr "has", .ref lh), (.inr "now", .int 0)] by kernel_rfl]
    obtain ⟨H10, e10⟩ : ∃ H10, H10 = upd H9 p (.dK [((.inr "ports" : Key), V.ref ap), (.inr "firsts", .ref af), (.inr "roads", .ref lr), (.inr "wrote", .ref lw), (.inr "has", .ref lh), (.inr "now", .int 0)]) := ⟨_, rfl⟩
    have f10 : Fr [p] H9 H10 := by rw [e10]; exact Fr.up
    have p10 : H10 p = some (.dK [((.inr "ports" : Key), V.ref ap), (.inr "firsts", .ref af), (.inr "roads", .ref lr), (.inr "wrote", .ref lw), (.inr "has", .ref lh), (.inr "now", .int 0)]) := by rw [e10]; exact upd_same
    have al10 : Alloc [lh, lw, lr, l1, l0, p] H10 := by rw [e10]; exact al9.up
    rw [← e10]
    clear e10
    have n_ap : ap ≠ p := ne_of q_ap q_p fun q => nomatch q
    have n_af : af ≠ p := ne_of q_af q_p fun q => nomatch q
    have n_l0 : l0 ≠ p := ne_of q_l0 q_p fun q => nomatch q
    have n_l1 : l1 ≠ p := ne_of q_l1 q_p fun q => nomatch q
    have n_lr : lr ≠ p := ne_of q_lr q_p fun q => nomatch q
    have n_t0 : t0 ≠ p := ne_of q_t0 q_p fun q => nomatch q
    have n_t1 : t1 ≠ p := ne_of q_t1 q_p fun q => nomatch q
    have n_lw : lw ≠ p := ne_of q_lw q_p fun q => nomatch q
    have n_t2 : t2 ≠ p := ne_of q_t2 q_p fun q => nomatch q
    have n_t3 : t3 ≠ p := ne_of q_t3 q_p fun q => nomatch q
    have n_lh : lh ≠ p := ne_of q_lh q_p fun q => nomatch q
    have r_ap := f10 _ _ q_ap (fun q => n_ap (List.mem_singleton.mp q))
    have r_af := f10 _ _ q_af (fun q => n_af (List.mem_singleton.mp q))
    refine sq_dpu (ex_ce (ex_makeD (arg_cons (val_ixT (val_var (i := 2) rfl) val_c r_ap rfl) (arg_cons (val_ixT (val_var (i := 2) rfl) val_c r_ap rfl) (arg_cons (val_ixT (val_var (i := 3) rfl) val_c r_af rfl) (arg_cons (val_c (v := .int (0 : Nat))) arg_nil)))) fun x dx hx hdx hd => ⟨x, p0, p1, f0, 0, rfl, hp0, hp1, hf0, ⟨dx, upd_same⟩, fun m H11 T11 kn F11 => ⟨rfl, ex_c1 val_c (ta_nil ⟨by show 2 ≤ sizeLine; decide, fun lt hlt => ?_⟩)⟩⟩))
    have sm := Same.made (C := He.ga K "Talk") hx hdx hd
    have s11 : Same H10 H11 := fun b o e => F11 b o (sm b o e) (by simp [ne_of_none e hx])
    have hb10 : ∀ b ∈ m.all x, H10 b = none := fun b hb => by
      rcases kn b hb with q | q
      · rw [q]; exact hx
      · exact sm.free q
    have pm : p ∉ m.all x := fun q => by have := hb10 p q; rw [p10] at this; cases this
    have ltm : lt ∉ m.all x := by
      obtain ⟨tv, T⟩ := id T11
      exact T.nfree hlt
    clear sm kn F11 hx hdx hd
    have s12 := Same.new (o := .lst [V.ref x, V.non]) hlt
    have p12 := s12 _ _ (s11 _ _ p10)
    have lt12 : (upd H11 lt (.lst [V.ref x, V.non])) lt = some (.lst [V.ref x, V.non]) := upd_same
    have al12 := (al10.same s11).new (o := .lst [V.ref x, V.non]) hlt
    obtain ⟨H12, e12⟩ : ∃ H12, H12 = upd H11 lt (.lst [V.ref x, V.non]) := ⟨_, rfl⟩
    rw [← e12] at s12 p12 lt12 al12 ⊢
    clear e12
    refine val_var (i := 4) rfl _ (val_c _ ⟨p, _, rfl, DPut.k (k := .inr "talks") p12 (by show 6 < sizeLine; decide), ?_⟩)
    obtain ⟨H13, e13⟩ : ∃ H13, H13 = upd H12 p (.dK (putK [((.inr "ports" : Key), V.ref ap), (.inr "firsts", .ref af), (.inr "roads", .ref lr), (.inr "wrote", .ref lw), (.inr "has", .ref lh), (.inr "now", .int 0)] (.inr "talks") (.ref lt))) := ⟨_, rfl⟩
    have f13 : Fr [p] H12 H13 := by rw [e13]; exact Fr.up
    have p13 : H13 p = some (.dK [((.inr "ports" : Key), V.ref ap), (.inr "firsts", .ref af), (.inr "roads", .ref lr), (.inr "wrote", .ref lw), (.inr "has", .ref lh), (.inr "now", .int 0), (.inr "talks", .ref lt)]) := by rw [e13]; exact upd_same.trans (by kernel_rfl)
    have al13 := al12.up (p := p) (o := .dK (putK [((.inr "ports" : Key), V.ref ap), (.inr "firsts", .ref af), (.inr "roads", .ref lr), (.inr "wrote", .ref lw), (.inr "has", .ref lh), (.inr "now", .int 0)] (.inr "talks") (.ref lt)))
    rw [← e13] at al13 ⊢
    clear e13
    refine sq_dpu (ex_c1 val_c (ex_c1 val_c (ta_nil ⟨by show 2 ≤ sizeLine; decide, fun lo hlo => ?_⟩)))
    have n_lt : lt ≠ p := ne_of lt12 p12 fun q => nomatch q
    have T12 := T11.same s12
    have T13 : TalkO K H13 x m (.ref x) (some (.new p0 p1 f0 0 none)) := TalkO.fr (o := some _) ⟨rfl, T12⟩ f13 (fun _ b hb q => pm (by rw [← List.mem_singleton.mp q]; exact hb)) (fun b hb xs e => by rw [List.mem_singleton.mp hb, p12] at e; cases e)
    have lom : lo ∉ m.all x := by
      obtain ⟨_, tv, T⟩ := id T13
      exact T.nfree hlo
    have s14 := Same.new (o := .lst [V.bl false, V.bl false]) hlo
    have p14 := s14 _ _ p13
    have lo14 : (upd H13 lo (.lst [V.bl false, V.bl false])) lo = some (.lst [V.bl false, V.bl false]) := upd_same
    have al14 := al13.new (o := .lst [V.bl false, V.bl false]) hlo
    have T14 := T13.same s14
    obtain ⟨H14, e14⟩ : ∃ H14, H14 = upd H13 lo (.lst [V.bl false, V.bl false]) := ⟨_, rfl⟩
    rw [← e14] at s14 p14 lo14 al14 T14 ⊢
    clear e14
    refine val_var (i := 4) rfl _ (val_c _ ⟨p, _, rfl, DPut.k (k := .inr "told") p14 (by show 7 < sizeLine; decide), ?_⟩)
    refine sq_dput (k := .inr "cuts") val_c (val_var (i := 4) rfl) val_c upd_same rfl (by show 8 < sizeLine; decide) ?_
    obtain ⟨H16, e16⟩ : ∃ H16, H16 = upd (upd H14 p (.dK (putK [((.inr "ports" : Key), V.ref ap), (.inr "firsts", .ref af), (.inr "roads", .ref lr), (.inr "wrote", .ref lw), (.inr "has", .ref lh), (.inr "now", .int 0), (.inr "talks", .ref lt)] (.inr "told") (.ref lo)))) p (.dK (putK (putK [((.inr "ports" : Key), V.ref ap), (.inr "firsts", .ref af), (.inr "roads", .ref lr), (.inr "wrote", .ref lw), (.inr "has", .ref lh), (.inr "now", .int 0), (.inr "talks", .ref lt)] (.inr "told") (.ref lo)) (.inr "cuts") (.bl false))) := ⟨_, rfl⟩
    have f16 : Fr [p] H14 H16 := by rw [e16]; exact Fr.up.trans Fr.up
    let A : Wa := { aw := p, ap := ap, af := af, lr := lr, lw := lw, lh := lh, lt := lt, lo := lo, r := two l0 l1, w := two t0 t1, h := two t2 t3, a := fun _ => x, n := fun _ => m }
    have p16 : H16 p = some (.dK (wd A 0 false)) := by rw [e16]; exact upd_same.trans (by kernel_rfl)
    rw [← e16]
    clear e16
    have f9 : Fr [p] H9 H16 := (((((f10.trans (Fr.same s11)).trans (Fr.same s12)).trans f13).trans (Fr.same s14)).trans f16)
    have f12 : Fr [p] H12 H16 := ((f13.trans (Fr.same s14)).trans f16)
    have n_lo : lo ≠ p := ne_of lo14 p14 fun q => nomatch q
    have T16 : TalkO K H16 x m (.ref x) (some (.new p0 p1 f0 0 none)) := T14.fr f16 (fun _ b hb q => pm (by rw [← List.mem_singleton.mp q]; exact hb)) (fun b hb xs e => by rw [List.mem_singleton.mp hb, p14] at e; cases e)
    have al10' := al10.al
    refine st_ret (val_var (i := 4) rfl) (k A (two p0 p1) (two f0 f1) H16 (fun y => by cases y; exact hp0; exact hp1) (fun y => by cases y; exact hf0; exact hf1) ⟨p16, f9 _ _ q_ap (fun q => n_ap (List.mem_singleton.mp q)), f9 _ _ q_af (fun q => n_af (List.mem_singleton.mp q)), f9 _ _ q_lr (fun q => n_lr (List.mem_singleton.mp q)), fun y => ?_, f9 _ _ q_lw (fun q => n_lw (List.mem_singleton.mp q)), fun y => ?_, f9 _ _ q_lh (fun q => n_lh (List.mem_singleton.mp q)), fun y => ?_, ⟨.ref x, .non, f12 _ _ lt12 (fun q => n_lt (List.mem_singleton.mp q)), T16, rfl⟩, f16 _ _ lo14 (fun q => n_lo (List.mem_singleton.mp q)), ls_nodup al14.nd, fun y hy b hb q => ?_, fun _ h => absurd h Bool.false_ne_true⟩ (fun b hb => ?_) (Fr.same1 ((Fr.same SH).trans f9) hpH))
    · cases y
      · exact ⟨[], f9 _ _ q_l0 (fun q => n_l0 (List.mem_singleton.mp q)), All2.nil⟩
      · exact ⟨[], f9 _ _ q_l1 (fun q => n_l1 (List.mem_singleton.mp q)), All2.nil⟩
    · cases y
      · exact f9 _ _ q_t0 (fun q => n_t0 (List.mem_singleton.mp q))
      · exact f9 _ _ q_t1 (fun q => n_t1 (List.mem_singleton.mp q))
    · cases y
      · exact f9 _ _ q_t2 (fun q => n_t2 (List.mem_singleton.mp q))
      · exact f9 _ _ q_t3 (fun q => n_t3 (List.mem_singleton.mp q))
    · have hb : b ∈ m.all x := hb
      have q : b ∈ [p, lr, lw, lh, lt, lo, l0, l1] := q
      have hn := hb10 b hb
      simp only [List.mem_cons, List.not_mem_nil, or_false] at q
      rcases q with q | q | q | q | q | q | q | q
      · exact al10' p (by simp) (by rw [← q]; exact hn)
      · exact al10' lr (by simp) (by rw [← q]; exact hn)
      · exact al10' lw (by simp) (by rw [← q]; exact hn)
      · exact al10' lh (by simp) (by rw [← q]; exact hn)
      · exact ltm (by rw [← q]; exact hb)
      · exact lom (by rw [← q]; exact hb)
      · exact al10' l0 (by simp) (by rw [← q]; exact hn)
      · exact al10' l1 (by simp) (by rw [← q]; exact hn)
    · have S10 : Same H H10 := Fr.same1 ((Fr.same SH).trans f10) hpH
      have S11 := S10.trans s11
      have S13 : Same H H13 := Fr.same1 (((Fr.same S11).trans (Fr.same s12)).trans f13) hpH
      have hb : b ∈ [p, lr, lw, lh, lt, lo, l0, l1] ++ (m.all x ++ []) := hb
      simp only [List.mem_append, List.mem_cons, List.not_mem_nil, or_false] at hb
      rcases hb with (q | q | q | q | q | q | q | q) | q
      · rw [q]; exact hpH
      · rw [q]; exact hlr
      · rw [q]; exact hlw
      · rw [q]; exact hlh
      · rw [q]; exact S11.free hlt
      · rw [q]; exact S13.free hlo
      · rw [q]; exact hl0
      · rw [q]; exact hl1
      · exact S10.free (hb10 b q)
end
end SW
end
section
set_option maxRecDepth 100000
set_option maxHeartbeats 4000000
/-! The clean world: how its ending begins. -/
namespace SW
open PySem PySem.Spec PyProof.Rows L2
section
variable {port first : Bool → Nat}
theorem open1_p (hp : ∀ x, port x < 256) : SegP (open1 port first) := by
  have h0 := hp false
  have h1 := hp true
  exact ⟨by show port false ≤ 255; omega, by show port true ≤ 255; omega, by show 0 < 4294967296; decide⟩
theorem first1_good (hp : ∀ x, port x < 256) (hf : ∀ x, first x < 4294967296) : WGood (Wd.first1 port first) := ⟨first1_inv port first hp hf, fun x s hs => by
  cases x with
  | false => cases hs
  | true =>
    have hs : s ∈ [open1 port first] := hs
    rw [List.mem_singleton.mp hs]
    exact open1_p hp⟩
theorem first1_len : (Wd.first1 port first).len 10 := fun x => by
  cases x
  · show (0 : Nat) ≤ 10; decide
  · show (1 : Nat) ≤ 10; decide
theorem first1_timed : Timed (Wd.first1 port first) := fun x tl e => by
  cases x with
  | false =>
    have e : some (tl1 port first) = some tl := e
    cases e
    rfl
  | true => cases e
theorem first1_ft : FT (Wd.first1 port first) := fun x tl e h => by
  cases x with
  | false =>
    have e : some (tl1 port first) = some tl := e
    cases e
    cases h
  | true => cases e
theorem begun_talk {x : Bool} {tl : Tl} (e : (Wd.begun port first).talk x = some tl) : x = false ∧ tl = .new (port false) (port true) (first false) 0 none := by
  cases x with
  | false =>
    have e : some (Tl.new (port false) (port true) (first false) 0 none) = some tl := e
    cases e
    exact ⟨rfl, rfl⟩
  | true => cases e
theorem begun_tkOk (hp : ∀ x, port x < 256) (hf : ∀ x, first x < 4294967296) : TkOk (Wd.begun port first) 0 := fun i hi => by
  have G := first1_good hp hf
  match i, hi with
  | 0, _ =>
    refine ⟨fun x tl e => ?_, fun x => by show (0 : Nat) ≤ _; decide⟩
    obtain ⟨rfl, rfl⟩ := begun_talk e
    refine ⟨⟨?_, ?_, ?_, hf false, hf false⟩, Nat.le_refl _, Nat.le_refl _, (fun s h => by cases h), by show 1 ≤ 6000; decide, fun q hq => ?_⟩
    · intro h; cases h
    · intro t h; cases h
    · intro t h; cases h
    · have ho : (Tl.new (port false) (port true) (first false) 0 none).dueOut 0 = [open1 port first] := by
        show ((Gv.new (first false)).duePairs 0).map _ = _
        rw [pairs_new (hf false)]
        rfl
      have hq : q ∈ (Tl.new (port false) (port true) (first false) 0 none).dueOut 0 := hq
      rw [ho] at hq
      exact G.sfit (x := true) (by show q ∈ [open1 port first]; exact hq)
  | 1, _ =>
    have e : (({ Wd.begun port first with now := (Wd.begun port first).now + 0 } : Wd).dues 1) = Wd.first1 port first := by
      have h := begun_ticked port first (hf false)
      have h2 : ((Wd.first1 port first)).talk true = none := rfl
      have h1 : (({ Wd.begun port first with now := (Wd.begun port first).now + 0 } : Wd).due false).talk true = none := by
        rw [due_some (w := { Wd.begun port first with now := (Wd.begun port first).now + 0 }) (x := false) (tl := Tl.new (port false) (port true) (first false) 0 none) rfl]
        rfl
      unfold Wd.ticked at h
      rw [due_none h1] at h
      exact h
    rw [e]
    exact ⟨G.dueFit, first1_len.mono (by decide)⟩
/-- the first opening has come -/
noncomputable def Wd.first2 (port first : Bool → Nat) : Wd := (Wd.first1 port first).step
theorem first2_is : Wd.first2 port first = { Wd.first1 port first with road := put (put (fun _ => []) true [open1 port first]) true [], talk := put (put (fun _ => none) false (some (tl1 port first))) true (some (.new (port true) (port false) (first true) 0 (some (first false)))), cuts := false || false } := by
  unfold Wd.first2 Wd.step
  show (({ Wd.first1 port first with road := put (Wd.first1 port first).road true [] } : Wd).come true (open1 port first)) = _
  unfold Wd.come
  exact if_pos ⟨rfl, rfl, rfl⟩
theorem first2_empty : (Wd.first2 port first).empty := by
  rw [first2_is]
  exact ⟨rfl, rfl⟩
theorem run_first2 : ∀ k, ((Wd.first1 port first).run k).empty → (Wd.first1 port first).run k = Wd.first2 port first
  | 0, h => by cases (show [open1 port first] = [] from h.2)
  | 1, h => rfl
  | k + 2, h => by
    have hk : ((Wd.first1 port first).run (k + 1)).empty := by
      have : ∀ j, ((Wd.first1 port first).run (j + 1)) = Wd.first2 port first := fun j => by
        induction j with
        | zero => rfl
        | succ j ih =>
          show ((Wd.first1 port first).run (j + 1)).step = _
          rw [ih, step_empty first2_empty]
      rw [this k]
      exact first2_empty
    show ((Wd.first1 port first).run (k + 1)).step = _
    rw [step_empty hk]
    exact run_first2 (k + 1) hk
theorem first2_start : CStart (Wd.first2 port first) := by
  have e1 : (Wd.first2 port first).T false = tl1 port first := by unfold Wd.T; rw [first2_is]; rfl
  have e2 : (Wd.first2 port first).T true = .new (port true) (port false) (first true) 0 (some (first false)) := by unfold Wd.T; rw [first2_is]; rfl
  refine ⟨(by rw [first2_is]; exact fun q => (by cases q)), (by rw [first2_is]; rfl), (by rw [e1]; rfl), fun x => ?_, fun x => ?_, by rw [e1]; exact ⟨rfl, rfl, rfl⟩, by rw [e2]; exact ⟨rfl, rfl, rfl⟩⟩
  · cases x
    · rw [e1]; rfl
    · rw [e2]; rfl
  · cases x
    · rw [e1]; rfl
    · rw [e2]; rfl
end
section
variable {w w' : Wd} {x : Bool} {tl' : Tl}
/-- what the beginning of an ending asks of a talk -/
structure LikeS (a b : Tl) : Prop where
  ending : a.ending = b.ending
  t : b.t = none → a.t = none
  tried : a.g.tried = b.g.tried
  sent : a.g.sent = b.g.sent
  since : a.g.since = b.g.since
  wait : a.g.wait = b.g.wait
  reach : a.g.reach = b.g.reach
  passed : a.g.passed = b.g.passed
theorem LikeS.refl (a : Tl) : LikeS a a := ⟨rfl, id, rfl, rfl, rfl, rfl, rfl, rfl⟩
theorem CStart.put (C : CStart w) (h : ∀ y, LikeS (w'.T y) (w.T y)) (hn : w'.now = w.now) (hb : w'.talk true = none → w.talk true = none) : CStart w' :=
  ⟨fun q => C.hb (hb q), hn.trans C.now, (h false).t C.ht, fun y => (h y).ending.trans (C.no y), fun y => (h y).tried.trans (C.tr y), ⟨(h false).sent.trans C.s0.1, (h false).since.trans C.s0.2.1, (h false).wait.trans C.s0.2.2⟩, ⟨(h true).sent.trans C.s1.1, (h true).reach.trans C.s1.2.1, (h true).passed.trans C.s1.2.2⟩⟩
theorem like_put {tl : Tl} (e : w.talk x = some tl) (h1 : w'.talk = SW.put w.talk x (some tl')) (h2 : w'.port = w.port) (h3 : w'.first = w.first) (h : LikeS tl' tl) : ∀ y, LikeS (w'.T y) (w.T y) := fun y => by
  rw [T_put h1 h2 h3]
  rcases eq_or_not x y with rfl | rfl
  · rw [put_same, T_some e]; exact h
  · rw [put_not]; exact LikeS.refl _
theorem CStart.write (C : CStart w) (x : Bool) (d : List Nat) : CStart (w.write x d) := by
  cases e : w.talk x with
  | none => rw [write_none e]; exact C
  | some tl =>
    rw [write_some e]
    refine C.put (like_put (tl' := tl.write d) e rfl rfl rfl ?_) rfl fun q => ?_
    · unfold Tl.write
      split
      · exact LikeS.refl _
      · exact ⟨rfl, id, rfl, rfl, rfl, rfl, rfl, rfl⟩
    · have q : SW.put w.talk x (some (tl.write d)) true = none := q
      rcases eq_or_not x true with e2 | e2
      · rw [e2, put_same] at q; cases q
      · rw [show true = !x from e2, put_not] at q; rw [show true = !x from e2]; exact q
theorem CStart.read (C : CStart w) (x : Bool) (n : Nat) : CStart (w.read x n) := by
  cases e : w.talk x with
  | none => rw [read_none e]; exact C
  | some tl =>
    rw [read_some e]
    refine C.put (like_put (tl' := tl.read n) e rfl rfl rfl ⟨rfl, fun h => by unfold Tl.read; rw [h]; rfl, rfl, rfl, rfl, rfl, rfl, rfl⟩) rfl fun q => ?_
    have q : SW.put w.talk x (some (tl.read n)) true = none := q
    rcases eq_or_not x true with e2 | e2
    · rw [e2, put_same] at q; cases q
    · rw [show true = !x from e2, put_not] at q; rw [show true = !x from e2]; exact q
theorem CStart.reads (C : CStart w) : CStart w.reads := (C.read false 200).read true 200
end
/-- the clean world while both write -/
structure CW (n : Nat) (w : Wd) : Prop where
  good : WGood w
  timed : Timed w
  ft : FT w
  st : CStart w
  em : w.empty
  wl : ∀ x, (w.wrote x).length ≤ 60 * n
theorem timed_reads {w : Wd} (h : Timed w) : Timed w.reads := timed_read (timed_read h false 200) true 200
theorem ft_reads {w : Wd} (h : FT w) : FT w.reads := ft_read (ft_read h false 200) true 200
theorem WGood.reads {w : Wd} (G : WGood w) : WGood w.reads := (G.read false 200).read true 200
theorem CW.start {port first : Bool → Nat} (hp : ∀ x, port x < 256) (hf : ∀ x, first x < 4294967296) {k : Nat} (h : ((Wd.first1 port first).run k).empty) : CW 0 ((Wd.first1 port first).run k).reads := by
  have G := (first1_good hp hf).run k
  have hT := (run_inv (first1_good hp hf).inv first1_timed k).2
  obtain ⟨a1, a2, a3, a4, a5, a6, a7⟩ := reads_facts ((Wd.first1 port first).run k)
  refine ⟨G.reads, timed_reads hT, ft_reads ?_, ?_, ?_, fun x => ?_⟩
  · rw [run_first2 k h]
    exact fun x tl e f => by
      rw [first2_is] at e
      cases x with
      | false =>
        have e : some (tl1 port first) = some tl := e
        cases e
        cases f
      | true =>
        have e : some (Tl.new (port true) (port false) (first true) 0 (some (first false))) = some tl := e
        cases e
        cases f
  · rw [run_first2 k h]
    exact first2_start.reads
  · unfold Wd.empty
    rw [a1]
    exact h
  · rw [a4, (run_plain (Wd.first1 port first) k).2.2]
    exact Nat.zero_le _
theorem CW.write {n : Nat} {w : Wd} (C : CW n w) (hn : n ≤ 70) (x : Bool) {d : List Nat} (hd : d.length ≤ 60) (hb : ∀ m ∈ d, m < 256) : CW (n + 1) (w.write x d) := by
  have h1 := C.wl x
  have hr : (w.write x d).road = w.road := by unfold Wd.write; split <;> rfl
  refine ⟨C.good.write x (by omega) hb, timed_write C.timed x d, ft_write C.ft x d, C.st.write x d, ?_, fun y => ?_⟩
  · unfold Wd.empty
    rw [hr]
    exact C.em
  · cases e : w.talk x with
    | none => rw [write_none e]; exact Nat.le_trans (C.wl y) (by omega)
    | some tl =>
      rw [write_some e]
      show (put w.wrote x (w.wrote x ++ d.take (tl.many d)) y).length ≤ _
      rcases eq_or_not x y with rfl | rfl
      · rw [put_same, List.length_append, List.length_take]; omega
      · rw [put_not]; exact Nat.le_trans (C.wl _) (by omega)
theorem run_empty {w : Wd} (h : w.empty) : ∀ k, w.run k = w
  | 0 => rfl
  | k + 1 => by
    show (w.run k).step = w
    rw [run_empty h k, step_empty h]
theorem CW.lc {n : Nat} {w : Wd} (C : CW n w) (k : Nat) : LC w.wrote (w.run k).reads := by
  have h := LG.start C.good.inv C.timed k (by rw [run_empty C.em]; exact C.em)
  rw [C.st.now] at h
  refine ⟨h, .inl ?_⟩
  rw [run_empty C.em]
  exact C.st.reads
/-- the drawn world's beginning -/
theorem first1_linv {port first : Bool → Nat} (hp : ∀ x, port x < 256) (hf : ∀ x, first x < 4294967296) : LInv 0 (Wd.first1 port first) := ⟨first1_good hp hf, first1_timed, first1_len.mono (by decide), fun x => Nat.le_refl _, first1_ft⟩
end SW
end
section
set_option maxRecDepth 100000
set_option maxHeartbeats 4000000
/-! The law: the clean world. -/
namespace SW
open PySem PySem.Spec PyProof.Rows L2
/-- the world's own was not there -/
def Fresh (H0 : Hp) (A : Wa) (w : Wd) : Prop := ∀ q ∈ A.mut w, H0 q = none
theorem Fresh.step {H0 H1 H2 : Hp} {A A' : Wa} {w w' : Wd} (f : Fresh H0 A w) (s : Same H0 H1) (t : WStp H1 H2 A w A' w') : Fresh H0 A' w' ∧ Same H0 H2 :=
  ⟨fun q hq => (t.kn q hq).elim (f q) s.free, fun c o e => t.fr c o (s c o e) (fun hq => by rw [f c hq] at e; cases e)⟩
theorem Fresh.stepB {H0 H1 H2 : Hp} {A A' : Wa} {w w' : Wd} {b : Addr} (f : Fresh H0 A w) (hb : H0 b = none) (s : Same H0 H1) (t : WStpB b H1 H2 A w A' w') : Fresh H0 A' w' ∧ Same H0 H2 :=
  ⟨fun q hq => (t.kn q hq).elim (f q) s.free, fun c o e => t.fr c o (s c o e) (fun hq => by
    rcases List.mem_cons.mp hq with q | q
    · rw [q, hb] at e; cases e
    · rw [f c q] at e; cases e)⟩
theorem same_draw {H0 H1 H2 : Hp} {b : Addr} (s : Same H0 H1) (hb : H0 b = none) (f : Fr [b] H1 H2) : Same H0 H2 := fun c o e => f c o (s c o e) fun q => by
  rw [List.mem_singleton.mp q, hb] at e; cases e
theorem sqL_same {K : PySem.W.Frag} {H H' : Hp} {a : Addr} {xs : List V} (h : SqL K H a xs) (s : Same H H') : SqL K H' a xs := by
  rcases h with (h | ⟨o, h⟩) | h
  · exact .inl (.inl (s _ _ h))
  · exact .inl (.inr ⟨o, s _ _ h⟩)
  · exact .inr h
theorem ans_yes {σ : L2.St} {H : Hp} : Ans tYes σ H true := fun _ q => q
def spClean (K : PySem.W.Frag) : Sp := fun vs H Q _ => ∃ (a : Addr) (ns : List Int), vs = [.ref a] ∧ SqL K H a (ns.map V.int) ∧ ∀ H', Same H H' → Q (.bl true) H'
section
variable {P : Program} {w : World} {K : PySem.W.Frag} {mg : Str → Option Value} {base : Heap}
theorem ok_L_clean (S : Says K mg) (F_L_begun : Fn P w K mg base 7 "_law_begun" ["_law_script"] (spBegun K)) (F_L_ticked : Fn P w K mg base 8 "_law_ticked" ["_law_world", "_law_many"] (spTicked K)) (F_L_all_come : Fn P w K mg base 9 "_law_all_come" ["_law_world"] (spAll K)) (F_L_draw : Fn P w K mg base 2 "_law_draw" ["_law_script", "_law_k", "_law_count"] (spDraw K)) (F_L_wrote : Fn P w K mg base 6 "_law_wrote" ["_law_world", "_law_end", "_law_data"] (spWrote K)) (F_L_bytes : Fn P w K mg base 3 "_law_bytes" ["_law_draw_here", "_law_many"] spBytes) (F_L_next : Fn P w K mg base 2 "_law_next" ["_law_draw_here", "_law_size"] spNext) (F_L_ends_right : Fn P w K mg base 10 "_law_ends_right" ["_law_world"] (spEnds K)) (F_Talk_stand : Mt P w K mg base 3 "Talk" "stand" ["self"] (spKStand K)) : Fn P w K mg base 11 "_law_clean" ["_law_script"] (spClean K) := by
  obtain ⟨fd, F⟩ := S.u_L_clean
  have sc : FnScope ["_law_script", "_law_world", "_law_draw_here", "_law_end", "_law_talk"] ["_law_script"] (defScope s_L_clean) := ⟨rfl, rfl, rfl, by decide +kernel, rfl, by decide +kernel, by decide +kernel⟩
  refine ⟨⟨fd, F.ok sc (fun vs H Q E h => ?_) (fun cdv A outer s H vs Q E hr h => ⟨_, PSs.nox (pss_cons (ps_set (i := 1) sc.nd rfl (Or.inl rfl) (pe_fn F_L_begun (hr.mono (by decide)) (pa_cons (pv 0) pa_nil)))
      (pss_cons (ps_expr (pe_fn F_L_ticked (hr.mono (by decide)) (pa_cons (pv 1) (pa_cons pe_int pa_nil))))
      (pss_cons (ps_expr (pe_fn F_L_all_come (hr.mono (by decide)) (pa_cons (pv 1) pa_nil)))
      (pss_cons (ps_set (i := 2) sc.nd rfl (Or.inl rfl) (pe_fn F_L_draw (hr.mono (by decide)) (pa_cons (pv 0) (pa_cons pe_int (pa_cons pe_int pa_nil)))))
      (pss_cons (ps_for PassesOwn.never rfl (pi_range1 rfl S.f_range (pa_cons pe_int pa_nil)) (pg_name (i := 3) sc.nd rfl (Or.inl rfl)) (pss_one (ps_if (PW.pt (pw_or (pt_cmpR op_isN (pe_ix ix_list (pe_dget (hu_of hr) (pv 1) pe_str (fun _ _ => rfl)) (pv 3) (fun _ _ => rfl)) pe_non (nomark _)) (pw_or1 (pt_not (pt_val (pe_fn F_L_wrote (hr.mono (by decide)) (pa_cons (pv 1) (pa_cons (pv 3) (pa_cons (pe_fn F_L_bytes (hr.mono (by decide)) (pa_cons (pv 2) (pa_cons (pe_op op_add pe_int (pe_fn F_L_next (hr.mono (by decide)) (pa_cons (pv 2) (pa_cons pe_int pa_nil)))) pa_nil))) pa_nil))))))))) (pss_one (ps_ret pe_bl)) pss_nil)))
      (pss_one (ps_ret (pe_and (pe_fn F_L_ends_right (hr.mono (by decide)) (pa_cons (pv 1) pa_nil)) (pe_one (pe_cmpR (op_eqD hr.units) (pe_lc (own := [("_law_talk", 4)]) (g := gName 4) rfl sc.nd (pi_list (pe_dget (hu_of hr) (pv 1) pe_str (fun _ _ => rfl))) (blkOk_by (own := [("_law_talk", 4)]) (N := ["_law_script", "_law_world", "_law_draw_here", "_law_end", "_law_talk"]) (sc := defScope s_L_clean) (by decide +kernel)) (fun _ _ _ _ _ => pg_name (i := 4) sc.nd rfl (Or.inl rfl)) (fun _ _ _ _ _ => pts_nil) (fun _ _ _ _ _ => (pe_mt0K K (pv 4) F_Talk_stand (hr.mono (by decide))))) (pe_lst (pa_cons pe_str (pa_cons pe_str pa_nil))) (nomark _))))))))))), ?_⟩), F.bindsN (fun _ _ _ _ _ _ us hl => match us, hl with | [_], _ => rfl)⟩, F.kp, S.g__law_clean⟩
  · obtain ⟨_, _, rfl, _⟩ := h
    rfl
  · obtain ⟨a, ns, rfl, hns, k⟩ := h
    refine sq_as (ex_fn (arg_cons (val_var rfl) arg_nil) ⟨a, ns, rfl, hns, fun A port first H1 hp hf W1 fr1 s1 => ?_⟩)
    have fr1 : Fresh H A (Wd.begun port first) := fr1
    have G1 := first1_good hp hf
    refine sq_dr (ex_fn (arg_cons (val_var (i := 1) rfl) (arg_cons (val_c (v := .int (0 : Nat))) arg_nil)) ⟨A, _, 0, rfl, W1, begun_tkOk hp hf, fun A2 H2 W2 t2 => ?_⟩)
    obtain ⟨fr2, s2⟩ := fr1.step s1 t2
    have ea2 : A2.aw = A.aw := t2.aw
    rw [begun_ticked port first (hf false)] at W2 fr2
    refine sq_dr (ex_fn (arg_cons (val_to (y := .ref A2.aw) (val_var (i := 1) rfl) (by rw [ea2])) arg_nil) ⟨A2, _, rfl, W2, G1, first1_len.mono (by decide), fun x => by show 0 ≤ _; decide, fun A3 k3 H3 hem3 W3 t3 => ?_⟩)
    obtain ⟨fr3, s3⟩ := fr2.step s2 t3
    have ea3 : A3.aw = A.aw := t3.aw.trans ea2
    have C3 := CW.start hp hf hem3
    generalize ((Wd.first1 port first).run k3).reads = v3 at *
    clear W1 fr1 W2 fr2 s1 s2 t2 t3 hem3 G1 ea2 H1 H2 A2
    refine sq_as (ex_fn (arg_cons (val_var (i := 0) rfl) (arg_cons (val_c (v := .int (0 : Nat))) (arg_cons val_c arg_nil))) ⟨a, 0, ns, 40, rfl, sqL_same hns s3, fun b H4 hb s4 d4 => ?_⟩)
    have hb0 : H b = none := s3.free hb
    have hbm : b ∉ A3.mut v3 := W3.nfree hb
    refine sq_rng1 (n := 2) val_c (by decide) (fun i σ H' => ∃ z3 z4 A' v, σ = [some (V.ref a), some (V.ref A.aw), some (V.ref b), z3, z4] ∧ A'.aw = A.aw ∧ WorldAt K H' A' v ∧ CW i v ∧ Fresh H A' v ∧ Same H H' ∧ D3 H' b ∧ b ∉ A'.mut v) ⟨none, none, A3, v3, rfl, ea3, W3.same s4, C3, fr3, s3.trans s4, d4, hbm⟩ ?_ ?_
    · clear W3 C3 fr3 s3 s4 d4 hb hbm ea3 A3 v3 H3 H4 k3
      rintro i σ H5 hi ⟨z3, z4, A5, v, rfl, ea, W5, C5, fr5, s5, d5, hb5⟩
      obtain ⟨x, ex⟩ := eI_of hi
      rw [ex, ← ea]
      show _
      have hx : v.talk x ≠ none := by
        cases x
        · exact C5.good.inv.t0
        · exact C5.st.hb
      obtain ⟨tl, e⟩ := Option.ne_none_iff_exists'.mp hx
      refine ans_isN' (val_ix (val_dget (k := .inr "talks") (val_var (i := 1) rfl) val_c W5.dic rfl wd_talks) (val_var (i := 3) rfl) W5.lst (at_pair (A5.tks v) x)) (by rw [Wa.tks_some e]; rfl) _ (iteF ?_)
      refine ex_fne (ex_c1 (val_var (i := 1) rfl) (ex_c1 (val_var (i := 3) rfl) (ex_ce (ex_fne (ex_c1 (val_var (i := 2) rfl) (ex_ce (ex_op1 val_c (ex_fn (arg_cons (val_var (i := 2) rfl) (arg_cons (val_c (v := .int (60 : Nat))) arg_nil)) ⟨b, 60, rfl, d5, by decide, by decide, fun m H6 hm F6 d6 => ⟨_, _, rfl, rfl, ta_nil ?_⟩⟩))))))))
      refine ⟨b, 1 + m, by rw [Int.natCast_add]; rfl, d6, by omega, fun d ds H7 hds h256 F7 d7 hnd => ta_nil ?_⟩
      have W6 := W5.drawn hb5 d5 F6
      have W7 := W6.drawn hb5 d6 F7
      have s7 := same_draw (same_draw s5 hb0 F6) hb0 F7
      have hw := C5.wl x
      refine ⟨A5, v, x, d, ds, tl, rfl, W7, C5.good, C5.ft, e, hnd, by omega, h256, by omega, fun A8 H8 W8 t8 => ⟨true, rfl, iteF (st_next ?_)⟩⟩
      obtain ⟨fr8, s8⟩ := fr5.step s7 t8
      refine ⟨_, _, A8, v.write x ds, rfl, t8.aw, W8, C5.write (by omega) x (by omega) h256, fr8, s8, ?_, fun q => ?_⟩
      · obtain ⟨i1, i2, i3, h⟩ := id d7
        exact ⟨i1, i2, i3, t8.fr _ _ h hb5⟩
      · exact (t8.kn b q).elim hb5 d7.ne
    · rintro σ H5 ⟨z3, z4, A5, v, rfl, ea, W5, C5, fr5, s5, d5, hb5⟩
      rw [← ea]
      refine st_rt (ex_fn (arg_cons (val_var (i := 1) rfl) arg_nil) ⟨A5, v, LC v.wrote, rfl, W5, C5.good, (empty_len C5.em).mono (by decide), fun x => Nat.le_trans (C5.wl x) (by decide), fun k _ => C5.lc k, fun v' k' L hE he => L.next hE k' he, fun v' L => by rw [C5.st.now]; exact L.lg, fun A6 w6 H6 j6 e6 W6 t6 => ⟨true, rfl, iteT ?_⟩⟩)
      obtain ⟨fr6, s6⟩ := fr5.step s5 t6
      have I := j6.lg.hd.inv
      have hcl := j6.closed e6
      have ea6 : A6.aw = A5.aw := t6.aw
      refine ex_ope (ex_stands W6 (val_dget (k := .inr "talks") (val_to (y := .ref A6.aw) (val_var (i := 1) rfl) (by rw [ea6])) val_c W6.dic rfl wd_talks) (fun x H' vv s hv => ?_) fun D H7 s7 hD => ?_)
      · subst hv
        have : ∃ t, w6.talk x = some t := by
          obtain ⟨t1, t2, h1, h2, _⟩ := hcl
          cases x
          · exact ⟨t1, h1⟩
          · exact ⟨t2, h2⟩
        obtain ⟨t, e⟩ := this
        have T := (W6.same s).tl e
        obtain ⟨tv, KT⟩ := id T
        exact .inr ⟨t, e, ans_yes, val_mt (val_to (val_var (i := 4) rfl) (Wa.tks_some e)) KT.ob (by kernel_rfl) arg_nil fun Q q => ⟨_, _, t, rfl, T, (I.fit e).1.ok, q⟩⟩
      · refine ex_c1 val_c (ex_c1 val_c (ta_nil ⟨by show 2 ≤ sizeLine; decide, fun p hp => eq_ll (upd_at hD hp) upd_same (stV_sc _) (stV_sc [.closed, .closed]) ?_⟩))
        rw [decide_eq_true (sts_closed.mpr hcl)]
        exact k _ ((s6.trans s7).trans (Same.new hp))
end
end SW
end
section
set_option maxRecDepth 100000
set_option maxHeartbeats 4000000
/-! A segment's fields told. -/
namespace SW
open PySem PySem.Spec PyProof.Rows L2
def segL (s : Sg) (u : Addr) : List V := [.int s.src, .int s.tgt, .str (marks s.a s.c s.e s.o s.q), .int s.number, .int s.answer, .int s.room, .ref u]
def spSTold (K : PySem.W.Frag) : Sp := fun vs H Q _ => ∃ (a u : Addr) (s : Sg), vs = [.ref a] ∧ SegU K H a u s ∧ ∀ b H', H b = none → Same H H' → H' b = some (.tup (segL s u)) → Q (.ref b) H'
section
variable {P : Program} {w : World} {K : PySem.W.Frag} {mg : Str → Option Value} {base : Heap}
theorem ok_Segment_told (S : Says K mg)  : Mt P w K mg base 1 "Segment" "told" ["self"] (spSTold K) := by
  obtain ⟨fd, F⟩ := S.u_Segment_told
  have sc : FnScope ["self"] ["self"] (defScope s_Segment_told) := ⟨rfl, rfl, rfl, by decide +kernel, rfl, by decide +kernel, by decide +kernel⟩
  refine ⟨⟨fd, F.ok sc (fun vs H Q E h => ?_) (fun cdv A outer s H vs Q E hr h => ⟨_, PSs.nox (pss_one (ps_ret (pe_tup (pa_cons (pe_fld (pv 0) rfl) (pa_cons (pe_fld (pv 0) rfl) (pa_cons (pe_fld (pv 0) rfl) (pa_cons (pe_fld (pv 0) rfl) (pa_cons (pe_fld (pv 0) rfl) (pa_cons (pe_fld (pv 0) rfl) (pa_cons (pe_fld (pv 0) rfl) pa_nil)))))))))), ?_⟩), F.bindsN (fun _ _ _ _ _ _ us hl => match us, hl with | [_], _ => rfl)⟩, S.c_Segment, S.m_Segment_told⟩
  · obtain ⟨_, _, _, rfl, _⟩ := h
    rfl
  · obtain ⟨a, u, s, rfl, U, k⟩ := h
    exact st_rt (ex_c1 (val_obj (val_var rfl) U.ob S.c_Segment S.n_Segment_source sf_source) (ex_c1 (val_obj (val_var rfl) U.ob S.c_Segment S.n_Segment_target sf_target) (ex_c1 (val_obj (val_var rfl) U.ob S.c_Segment S.n_Segment_marks sf_marks) (ex_c1 (val_obj (val_var rfl) U.ob S.c_Segment S.n_Segment_number sf_number) (ex_c1 (val_obj (val_var rfl) U.ob S.c_Segment S.n_Segment_answer sf_answer) (ex_c1 (val_obj (val_var rfl) U.ob S.c_Segment S.n_Segment_room sf_room) (ex_c1 (val_obj (val_var rfl) U.ob S.c_Segment S.n_Segment_data sf_data) (ta_nil ⟨by show 7 ≤ sizeLine; decide, fun b hb => k b _ hb (Same.new hb) upd_same⟩))))))))
end
end SW
end
section
set_option maxRecDepth 100000
set_option maxHeartbeats 4000000
/-! The law. -/
namespace SW
open PySem PySem.Spec PyProof.Rows L2
theorem sq_rng2 {σ : L2.St} {H : Hp} {ta tb' : TE} {D : Ends} {g : TG} {tb u2 : TS} {n : Nat} (ha : Val ta σ H (.int 1)) (hb : Val tb' σ H (.int n)) (hn : n < 1000000) (Pv : Nat → L2.St → Hp → Prop) (h0 : Pv 0 σ H)
    (hs : ∀ i σ H, i < n - 1 → Pv i σ H → g (.int ((1 + i : Nat) : Int)) σ H fun σ2 H2 => tb { D with nx := Pv (i + 1), ct := Pv (i + 1), bk := u2 D } σ2 H2)
    (hd : ∀ σ H, Pv (n - 1) σ H → u2 D σ H) : tSeq (tFor (iRng2 (tCons ta (tCons tb' tNil))) g tb) u2 D σ H :=
  ha _ (hb _ ⟨1, n, rfl, ⟨by omega, by omega, by omega, by omega⟩, for_it (D := { D with nx := u2 D }) walk_range Pv h0 (fun _ _ _ _ _ => trivial) (fun i x σ H H' hi p y => by
    obtain ⟨rfl, rfl⟩ := y
    show g (.int (1 + (i : Nat))) σ H' _
    rw [show (1 : Int) + (i : Nat) = ((1 + i : Nat) : Int) by omega]
    exact hs i σ H' (by omega) p) (fun σ H p => hd σ H (by
      have e : ((n : Int) - 1).toNat = n - 1 := by omega
      rw [e] at p
      exact p))⟩)
theorem dec_natE (n m : Nat) : decide (V.int (n : Nat) = V.int (m : Nat)) = decide (n = m) := decide_eq_decide.mpr ⟨fun e => Int.ofNat.inj (V.int.inj e), fun e => by rw [e]⟩
theorem marks_o : marks false false false true false = "o" := by decide +kernel
/-- the opening's fields -/
def opD (p0 p1 f0 : Nat) : PyData := .tuple [.int p0, .int p1, .str "o", .int f0, .int 0, .int 0, .tuple []]
theorem eqv_opD (p0 p1 f0 : Nat) : PyData.eqv (.list [opD p0 p1 f0]) (.list [opD p0 p1 f0]) = true := by
  simp [opD, PyData.eqv, PyData.eqvAll]
theorem shaped_opD (p0 p1 f0 : Nat) : SeqAt.shaped (.list [opD p0 p1 f0]) = true := by
  have h : PyData.strOk "o" = true := by decide +kernel
  show ((true && (true && (PyData.strOk "o" && (true && (true && (true && (true && true))))))) && true) && decide (2 ≤ 64) = true
  rw [h]
  rfl
theorem dp_op {K : PySem.W.Frag} {H : Hp} {t u : Addr} {p0 p1 f0 : Nat} (h : H t = some (.tup [.int p0, .int p1, .str "o", .int f0, .int 0, .int 0, .ref u])) (hu : H u = some (.tup [])) : Dp K H (.ref t) (opD p0 p1 f0) :=
  .tup (SqT.of h) (.cons (.int _) (.cons (.int _) (.cons (.str _) (.cons (.int _) (.cons (.int _) (.cons (.int _) (.cons (.tup (SqT.of hu) .nil) .nil)))))))
def spLaw (K : PySem.W.Frag) : Sp := fun vs H Q _ => ∃ (a : Addr) (ns : List Int), vs = [.ref a] ∧ SqL K H a (ns.map V.int) ∧ ns.length ≤ 63 ∧ ∀ H', Q (.bl true) H'
section
variable {P : Program} {w : World} {K : PySem.W.Frag} {mg : Str → Option Value} {base : Heap}
theorem ok_law (S : Says K mg) {fd : FuncData} (F : FunD K "law" "law" (defArgs s_law) (defBody s_law) (defScope s_law) [] [] (He.fAd K ("law", none)) fd) (F_L_clean : Fn P w K mg base 11 "_law_clean" ["_law_script"] (spClean K)) (F_L_begun : Fn P w K mg base 7 "_law_begun" ["_law_script"] (spBegun K)) (F_L_ticked : Fn P w K mg base 8 "_law_ticked" ["_law_world", "_law_many"] (spTicked K)) (F_Segment_told : Mt P w K mg base 1 "Segment" "told" ["self"] (spSTold K)) (F_L_draw : Fn P w K mg base 2 "_law_draw" ["_law_script", "_law_k", "_law_count"] (spDraw K)) (F_L_next : Fn P w K mg base 2 "_law_next" ["_law_draw_here", "_law_size"] spNext) (F_L_road : Fn P w K mg base 9 "_law_road" ["_law_world", "_law_draw_here"] (spRoad K)) (F_L_own : Fn P w K mg base 7 "_law_own" ["_law_world", "_law_draw_here"] (spOwn K)) (F_L_right : Fn P w K mg base 4 "_law_right" ["_law_world"] (spRight K)) (F_L_ends_right : Fn P w K mg base 10 "_law_ends_right" ["_law_world"] (spEnds K)) : FnOk P w K mg base CX0 12 (He.ga K "law") fd ["_law_script"] (spLaw K) := by
  have sc : FnScope ["_law_script", "_law_world", "_law_due", "_law_segment", "_law_k", "_law_draw_here", "_law_kind"] ["_law_script"] (defScope s_law) := ⟨rfl, rfl, rfl, by decide +kernel, rfl, by decide +kernel, by decide +kernel⟩
  refine F.ok sc (fun vs H Q E h => ?_) (fun cdv A outer s H vs Q E hr h => ⟨_, PSs.nox (pss_cons (ps_if (pt_not (pt_val (pe_fn F_L_clean (hr.mono (by decide)) (pa_cons (pv 0) pa_nil)))) (pss_one (ps_ret pe_bl)) pss_nil)
      (pss_cons (ps_set (i := 1) sc.nd rfl (Or.inl rfl) (pe_fn F_L_begun (hr.mono (by decide)) (pa_cons (pv 0) pa_nil)))
      (pss_cons (ps_expr (pe_fn F_L_ticked (hr.mono (by decide)) (pa_cons (pv 1) (pa_cons pe_int pa_nil))))
      (pss_cons (ps_set (i := 2) sc.nd rfl (Or.inl rfl) (pe_tup (pa_cons (pe_ix ix_tup (pe_dget (hu_of hr) (pv 1) pe_str (fun _ _ => rfl)) pe_int (fun _ _ => rfl)) (pa_cons (pe_ix ix_tup (pe_dget (hu_of hr) (pv 1) pe_str (fun _ _ => rfl)) pe_int (fun _ _ => rfl)) (pa_cons pe_str (pa_cons (pe_ix ix_tup (pe_dget (hu_of hr) (pv 1) pe_str (fun _ _ => rfl)) pe_int (fun _ _ => rfl)) (pa_cons pe_int (pa_cons pe_int (pa_cons (pe_tup pa_nil) pa_nil)))))))))
      (pss_cons (ps_if (pt_cmpR (op_neD hr.units) (pe_lc (own := [("_law_segment", 3)]) (g := gName 3) rfl sc.nd (pi_list (pe_ix ix_list (pe_dget (hu_of hr) (pv 1) pe_str (fun _ _ => rfl)) pe_int (fun _ _ => rfl))) (blkOk_by (own := [("_law_segment", 3)]) (N := ["_law_script", "_law_world", "_law_due", "_law_segment", "_law_k", "_law_draw_here", "_law_kind"]) (sc := defScope s_law) (by decide +kernel)) (fun _ _ _ _ _ => pg_name (i := 3) sc.nd rfl (Or.inl rfl)) (fun _ _ _ _ _ => pts_nil) (fun _ _ _ _ _ => (pe_mt0K K (pv 3) F_Segment_told (hr.mono (by decide))))) (pe_lst (pa_cons (pv 2) pa_nil)) (nomark _)) (pss_one (ps_ret pe_bl)) pss_nil)
      (pss_cons (ps_for PassesOwn.never rfl (pi_range2 rfl S.f_range (pa_cons pe_int (pa_cons (pe_callB call_len rfl S.f_len boot_len (pa_cons (pv 0) pa_nil)) pa_nil))) (pg_name (i := 4) sc.nd rfl (Or.inl rfl)) (pss_cons (ps_set (i := 5) sc.nd rfl (Or.inl rfl) (pe_fn F_L_draw (hr.mono (by decide)) (pa_cons (pv 0) (pa_cons (pv 4) (pa_cons pe_int pa_nil)))))
      (pss_cons (ps_set (i := 6) sc.nd rfl (Or.inl rfl) (pe_fn F_L_next (hr.mono (by decide)) (pa_cons (pv 5) (pa_cons pe_int pa_nil))))
      (pss_cons (ps_if (pt_cmpR op_eq (pv 6) pe_int (nomark _)) (pss_one (ps_expr (pe_fn F_L_ticked (hr.mono (by decide)) (pa_cons (pv 1) (pa_cons (pe_op op_add pe_int (pe_fn F_L_next (hr.mono (by decide)) (pa_cons (pv 5) (pa_cons pe_int pa_nil)))) pa_nil))))) (pss_one (ps_if (pt_cmpR op_eq (pv 6) pe_int (nomark _)) (pss_one (ps_expr (pe_fn F_L_road (hr.mono (by decide)) (pa_cons (pv 1) (pa_cons (pv 5) pa_nil))))) (pss_one (ps_if (pt_not (pt_val (pe_fn F_L_own (hr.mono (by decide)) (pa_cons (pv 1) (pa_cons (pv 5) pa_nil))))) (pss_one (ps_ret pe_bl)) pss_nil)))))
      (pss_one (ps_if (pt_not (pt_val (pe_fn F_L_right (hr.mono (by decide)) (pa_cons (pv 1) pa_nil)))) (pss_one (ps_ret pe_bl)) pss_nil))))))
      (pss_one (ps_ret (pe_fn F_L_ends_right (hr.mono (by decide)) (pa_cons (pv 1) pa_nil)))))))))), ?_⟩)
  · obtain ⟨_, _, rfl, _⟩ := h
    rfl
  · obtain ⟨a, ns, rfl, hns, hlen, k⟩ := h
    refine sq_noS (anss_not (b := true) (anss_val fun Q q => ex_fn (arg_cons (val_var (i := 0) rfl) arg_nil) ⟨a, ns, rfl, hns, fun H' s => q H' s⟩)) fun H0 s0 => ?_
    refine sq_as (ex_fn (arg_cons (val_var (i := 0) rfl) arg_nil) ⟨a, ns, rfl, sqL_same hns s0, fun A port first H1 hp hf W1 fr1 s1 => ?_⟩)
    have s1 := s0.trans s1
    have fr1 : Fresh H A (Wd.begun port first) := fun q hq => s0.free (fr1 q hq)
    have G1 := first1_good hp hf
    refine sq_dr (ex_fn (arg_cons (val_var (i := 1) rfl) (arg_cons (val_c (v := .int (0 : Nat))) arg_nil)) ⟨A, _, 0, rfl, W1, begun_tkOk hp hf, fun A2 H2 W2 t2 => ?_⟩)
    obtain ⟨fr2, s2⟩ := fr1.step s1 t2
    have ea2 : A2.aw = A.aw := t2.aw
    rw [begun_ticked port first (hf false)] at W2 fr2
    rw [← ea2]
    clear W1 fr1 t2 ea2
    have L2_ := first1_linv hp hf
    refine sq_as (ex_c1 (v := .int (port false)) (val_ixT (val_dget (k := .inr "ports") (val_var (i := 1) rfl) val_c W2.dic rfl wd_ports) val_c W2.po rfl) (ex_c1 (v := .int (port true)) (val_ixT (val_dget (k := .inr "ports") (val_var (i := 1) rfl) val_c W2.dic rfl wd_ports) val_c W2.po rfl) (ex_c1 val_c (ex_c1 (v := .int (first false)) (val_ixT (val_dget (k := .inr "firsts") (val_var (i := 1) rfl) val_c W2.dic rfl wd_firsts) val_c W2.fi rfl) (ex_c1 val_c (ex_c1 val_c (ex_ce (ta_nil ⟨by show 0 ≤ sizeLine; decide, fun e0 he0 => ta_nil ⟨by show 7 ≤ sizeLine; decide, fun dq hdq => ?_⟩⟩))))))))
    have sa := Same.new (o := .tup []) he0
    have sb := Same.new (o := .tup [V.int (port false), V.int (port true), V.str "o", V.int (first false), V.int 0, V.int 0, V.ref e0]) hdq
    have he3 := sb _ _ (upd_same (H := H2) (a := e0) (o := .tup []))
    have hd3 : (upd (upd H2 e0 (.tup [])) dq (.tup [V.int (port false), V.int (port true), V.str "o", V.int (first false), V.int 0, V.int 0, V.ref e0])) dq = some (.tup [V.int (port false), V.int (port true), V.str "o", V.int (first false), V.int 0, V.int 0, V.ref e0]) := upd_same
    have W3 := W2.same (sa.trans sb)
    have s3 := s2.trans (sa.trans sb)
    obtain ⟨H3, e3⟩ : ∃ H3, H3 = upd (upd H2 e0 (.tup [])) dq (.tup [V.int (port false), V.int (port true), V.str "o", V.int (first false), V.int 0, V.int 0, V.ref e0]) := ⟨_, rfl⟩
    rw [← e3] at he3 hd3 W3 s3 ⊢
    clear e3 sa sb hdq he0 W2 s2 H2
    obtain ⟨xs, hx, ox⟩ := W3.rd true
    have hx1 : xs.length = 1 := ox.1
    obtain ⟨y0, rfl⟩ := List.length_eq_one_iff.mp hx1
    obtain ⟨so, hso, sat⟩ := ox.2 0 y0 rfl
    obtain rfl : open1 port first = so := Option.some.inj hso
    obtain ⟨sa, su, rfl, U⟩ := sat
    refine sq_noS (fun Q' q => ?_) fun H5 s5 => ?_
    · refine ex_ope (ex_lcl (val_ix (val_dget (k := .inr "roads") (val_var (i := 1) rfl) val_c W3.dic rfl wd_roads) val_c W3.ro rfl) hx (fun D i H' => Same H3 H' ∧ ∃ acc, H' D = some (.lst acc) ∧ (i = 0 → acc = []) ∧ (i = 1 → ∃ t u, acc = [V.ref t] ∧ H' t = some (.tup (segL (open1 port first) u)) ∧ H' u = some (.tup []))) (fun D hD => ⟨Same.new hD, [], upd_same, fun _ => rfl, fun h => absurd h (by decide)⟩) (fun D i H' hD p => p.1 _ _ hx) ?_ ?_)
      · rintro D i y H' hD hy ⟨p1, acc, p2, p3, p4⟩
        have hi : i = 0 := by
          have h : i < 1 := (List.getElem?_eq_some_iff.mp hy).1
          omega
        subst hi
        obtain rfl : V.ref sa = y := Option.some.inj hy
        have ea := p3 rfl
        subst ea
        refine ⟨rfl, ans_yes _ (iteT (ex_mt (val_var (i := 3) rfl) (U.same p1).ob (by kernel_rfl) arg_nil ⟨sa, su, open1 port first, rfl, U.same p1, fun t H6 ht s6 h6 => ?_⟩))⟩
        have ne : t ≠ D := fun e => by rw [← e, ht] at p2; cases p2
        have nu : su ≠ D := fun e => by have := U.da; rw [e, hD] at this; cases this
        refine ⟨[], s6 _ _ p2, by show 0 < sizeLine; decide, fun b o e => ?_, [V.ref t], upd_same, fun h => absurd h (by decide), fun _ => ⟨t, su, rfl, ?_, ?_⟩⟩
        · rw [upd_ne (ne_of_none e hD)]
          exact s6 _ _ (p1 _ _ e)
        · rw [upd_ne ne]; exact h6
        · rw [upd_ne nu]; exact s6 _ _ (p1 _ _ U.da)
      · rintro D H' hD ⟨p1, acc, p2, p3, p4⟩
        obtain ⟨t, u, rfl, ht, hu⟩ := p4 hx1
        refine ex_c1 (val_var (i := 2) rfl) (ta_nil ⟨by show 1 ≤ sizeLine; decide, fun p hp => ?_⟩)
        have sp := Same.new (o := .lst [V.ref dq]) hp
        refine ⟨_, _, .lst (SqL.of (sp _ _ p2)) (.cons (dp_op (p0 := port false) (p1 := port true) (f0 := first false) ((sp _ _ ht).trans ?_) (sp _ _ hu)) .nil), .lst (SqL.of upd_same) (.cons (dp_op (sp _ _ (p1 _ _ hd3)) (sp _ _ (p1 _ _ he3))) .nil), shaped_opD _ _ _, shaped_opD _ _ _, ?_⟩
        · unfold segL open1
          rw [marks_o]
          rfl
        · rw [eqv_opD]
          exact ⟨_, rfl, q _ (p1.trans sp)⟩
    have W5 := W3.same s5
    have s5 := s3.trans s5
    clear W3 s3 hx hx1 ox hso U hd3 he3
    have hll := val_len_lst (K := K) (H := H5) (σ := ((L2.start ["_law_script", "_law_world", "_law_due", "_law_segment", "_law_k", "_law_draw_here", "_law_kind"] [V.ref a]).set 1 (some (V.ref A2.aw))).set 2 (some (V.ref dq))) (val_var (i := 0) rfl) (sqL_same hns s5)
    rw [List.length_map] at hll
    refine sq_rng2 (n := ns.length) val_c hll (by omega) (fun i σ H' => ∃ z3 z4 z5 z6 A' v, σ = [some (V.ref a), some (V.ref A2.aw), some (V.ref dq), z3, z4, z5, z6] ∧ A'.aw = A2.aw ∧ WorldAt K H' A' v ∧ LInv i v ∧ Fresh H A' v ∧ Same H H') ⟨none, none, none, none, A2, _, rfl, rfl, W5, L2_, fr2, s5⟩ ?_ ?_
    · clear W5 s5 hll fr2 L2_ G1
      rintro i σ H6 hi ⟨z3, z4, z5, z6, A6, v, rfl, ea, W6, L, fr6, s6⟩
      rw [← ea]
      show _
      refine sq_as (ex_fn (arg_cons (val_var (i := 0) rfl) (arg_cons (val_var (i := 4) rfl) (arg_cons val_c arg_nil))) ⟨a, 1 + i, ns, 0, rfl, sqL_same hns s6, fun b H7 hb s7 d7 => ?_⟩)
      have hb0 : H b = none := s6.free hb
      have hbm : b ∉ A6.mut v := W6.nfree hb
      refine sq_as (ex_fn (arg_cons (val_var (i := 5) rfl) (arg_cons (val_c (v := .int (3 : Nat))) arg_nil)) ⟨b, 3, rfl, d7, by decide, by decide, fun kind H8 hkind F8 d8 => ?_⟩)
      have W8 := (W6.same s7).drawn hbm d7 F8
      have s8 := same_draw (s6.trans s7) hb0 F8
      clear W6 s6 s7 d7 F8 hb hkind
      have hlen8 : v.len 900000 := L.len.mono (by omega)
      have fin : ∀ (A' : Wa) (v' : Wd) (H' : Hp), A'.aw = A6.aw → WorldAt K H' A' v' → LInv (i + 1) v' → Fresh H A' v' → Same H H' → tIfS (tNot (tB (tCall (spRight K) [] E0 (tCons (tVar 1) tNil)))) (tRet (tC (.bl false))) tNext { nx := fun σ H' => ∃ z3 z4 z5 z6 A' v, σ = [some (V.ref a), some (V.ref A6.aw), some (V.ref dq), z3, z4, z5, z6] ∧ A'.aw = A6.aw ∧ WorldAt K H' A' v ∧ LInv (i + 1) v ∧ Fresh H A' v ∧ Same H H', rt := Q } [some (V.ref a), some (V.ref A6.aw), some (V.ref dq), z3, some (V.int ((1 + i : Nat) : Int)), some (V.ref b), some (V.int kind)] H' := fun A' v' H' e W' L' f' s' => by
        refine st_noS (anss_not (b := true) (anss_val fun Q q => ex_fn (arg_cons (val_to (y := .ref A'.aw) (val_var (i := 1) rfl) (by rw [e])) arg_nil) ⟨A', v', rfl, W', L'.good.inv, q⟩)) fun H'' s'' => st_next ⟨_, _, _, _, A', v', rfl, e, W'.same s'', L', f', s'.trans s''⟩
      by_cases c0 : kind = 0
      · refine sq_yes (ans_eqS (val_var (i := 6) rfl) val_c rfl ((dec_natE kind 0).trans (decide_eq_true c0))) (st_dr (ex_fne (ex_c1 (val_var (i := 1) rfl) (ex_ce (ex_op1 val_c (ex_fn (arg_cons (val_var (i := 5) rfl) (arg_cons (val_c (v := .int (6 : Nat))) arg_nil)) ⟨b, 6, rfl, d8, by decide, by decide, fun m H9 hm F9 d9 => ⟨_, _, rfl, rfl, ta_nil ?_⟩⟩))))))
        refine ⟨A6, v, 1 + m, by rw [Int.natCast_add]; rfl, W8.drawn hbm d8 F9, L.good.tkOk hlen8 (1 + m), fun A10 H10 W10 t10 => ?_⟩
        obtain ⟨f10, s10⟩ := fr6.step (same_draw s8 hb0 F9) t10
        exact fin A10 _ H10 t10.aw W10 (L.ticked (1 + m)) f10 s10
      refine sq_noE (ans_eqS (val_var (i := 6) rfl) val_c rfl ((dec_natE kind 0).trans (decide_eq_false c0))) ?_
      by_cases c1 : kind = 1
      · refine st_yes (ans_eqS (val_var (i := 6) rfl) val_c rfl ((dec_natE kind 1).trans (decide_eq_true c1))) (st_dr (ex_fn (arg_cons (val_var (i := 1) rfl) (arg_cons (val_var (i := 5) rfl) arg_nil)) ⟨A6, v, b, i, rfl, W8, L, by omega, d8, hbm, fun A10 v10 H10 W10 L10 t10 => ?_⟩))
        obtain ⟨f10, s10⟩ := fr6.stepB hb0 s8 t10
        exact fin A10 _ H10 t10.aw W10 L10 f10 s10
      · refine st_no (ans_eqS (val_var (i := 6) rfl) val_c rfl ((dec_natE kind 1).trans (decide_eq_false c1))) ?_
        refine ex_fn (arg_cons (val_var (i := 1) rfl) (arg_cons (val_var (i := 5) rfl) arg_nil)) ⟨A6, v, b, i, rfl, W8, L, by omega, d8, hbm, fun A10 v10 H10 W10 L10 t10 => ⟨true, rfl, iteF (st_next ?_)⟩⟩
        obtain ⟨f10, s10⟩ := fr6.stepB hb0 s8 t10
        exact fin A10 _ H10 t10.aw W10 L10 f10 s10
    · rintro σ H6 ⟨z3, z4, z5, z6, A6, v, rfl, ea, W6, L, fr6, s6⟩
      rw [← ea]
      exact st_rt (ex_fn (arg_cons (val_var (i := 1) rfl) arg_nil) ⟨A6, v, LG v.now v.wrote, rfl, W6, L.good, L.len.mono (by omega), fun x => Nat.le_trans (L.wl x) (by omega), fun k he => LG.start L.good.inv L.timed k he, fun v' k' J hE he => J.next hE k' he, fun v' J => J, fun _ _ H' _ _ _ _ => k H'⟩)
end
end SW
end
section
set_option maxRecDepth 100000
set_option maxHeartbeats 4000000
/-! All together. -/
namespace SW
open PySem PySem.Spec PyProof.Rows L2
theorem law_all {P : Program} {w : World} {K : PySem.W.Frag} {mg : Str → Option Value} {base : Heap} (S : Says K mg) {fd : FuncData} (F : FunD K "law" "law" (defArgs s_law) (defBody s_law) (defScope s_law) [] [] (He.fAd K ("law", none)) fd) : FnOk P w K mg base CX0 12 (He.ga K "law") fd ["_law_script"] (spLaw K) := by
  have F_is_whole : Fn P w K mg base 1 "is_whole" ["thing", "least", "most"] spIsWhole := ok_is_whole S
  have F_need_size : Fn P w K mg base 1 "need_size" ["size"] spNeedSize := ok_need_size S
  have F_need_number : Fn P w K mg base 1 "need_number" ["number", "size"] spNeedNumber := ok_need_number S
  have F_moved : Fn P w K mg base 2 "moved" ["number", "by", "size"] spMoved := ok_moved S F_need_size F_need_number
  have F_far : Fn P w K mg base 2 "far" ["one", "other", "size"] spFar := ok_far S F_need_size F_need_number
  have F_is_number_givers : Fn P w K mg base 1 "is_number_givers" ["thing", "least"] spIsNum := ok_is_number_givers S
  have F_is_number_talks : Fn P w K mg base 1 "is_number_talks" ["thing", "beyond"] spIsNumT := ok_is_number_talks S
  have F_is_from_nought : Fn P w K mg base 1 "is_from_nought" ["thing", "most"] spFromNought := ok_is_from_nought S
  have F_is_within : Fn P w K mg base 1 "is_within" ["thing", "least", "most"] spIsWithin := ok_is_within S
  have F_need_tick : Fn P w K mg base 1 "need_tick" ["tick", "last"] spNeedTick := ok_need_tick S
  have F_is_data : Fn P w K mg base 2 "is_data" ["thing"] spIsData := ok_is_data S F_is_whole
  have F_are_marks : Fn P w K mg base 1 "are_marks" ["thing"] spAreMarks := ok_are_marks S
  have F_Giver_need_tick : Mt P w K mg base 2 "Giver" "need_tick" ["self", "tick"] (spGNeedTick K) := ok_Giver_need_tick S F_is_number_givers
  have F_Giver_is_counted : Mt P w K mg base 1 "Giver" "is_counted" ["self"] (spGIsCounted K) := ok_Giver_is_counted S
  have F_Giver_tries : Mt P w K mg base 1 "Giver" "tries" ["self"] (spGTries K) := ok_Giver_tries S
  have F_Giver_answered : Mt P w K mg base 1 "Giver" "answered" ["self"] (spGAnswered K) := ok_Giver_answered S
  have F_Giver_left : Mt P w K mg base 1 "Giver" "left" ["self"] (spGLeft K) := ok_Giver_left S
  have F_Giver_next_number : Mt P w K mg base 3 "Giver" "next_number" ["self"] (spGNext K) := ok_Giver_next_number S F_moved
  have F_Giver_count : Mt P w K mg base 2 "Giver" "count" ["self", "tick"] (spGCount K) := ok_Giver_count S F_Giver_is_counted
  have F_Giver : Mr P w K mg base 2 "Giver" ["self", "first", "most", "wait"] [] (spGInit K) := ok_Giver S F_is_number_givers
  have F_Giver_finish : Mt P w K mg base 1 "Giver" "finish" ["self"] (spGFinish K) := ok_Giver_finish S
  have F_Giver_write : Mt P w K mg base 3 "Giver" "write" ["self", "data"] (spGWrite K) := ok_Giver_write S F_is_data
  have F_Giver_heard : Mt P w K mg base 3 "Giver" "heard" ["self", "answer", "room", "tick"] (spGHeard K) := ok_Giver_heard S F_Giver_need_tick F_far F_Giver_count
  have F_Giver_again : Mt P w K mg base 1 "Giver" "again" ["self", "tick"] (spGAgain K) := ok_Giver_again S
  have F_Giver_due : Mt P w K mg base 4 "Giver" "due" ["self", "tick"] (spGDue K) := ok_Giver_due S F_Giver_need_tick F_Giver_count F_Giver_again F_Giver_next_number
  have F_Segment : Mr P w K mg base 3 "Segment" ["self", "source", "target", "marks", "number", "answer", "room", "data"] [] (spSInit K) := ok_Segment S F_is_from_nought F_are_marks F_is_data
  have F_Segment_numbered : Mt P w K mg base 1 "Segment" "numbered" ["self"] (spSNumbered K) := ok_Segment_numbered S
  have F_Taker : Mr P w K mg base 2 "Taker" ["self", "first", "room"] [] (spTInit K) := ok_Taker S F_is_within
  have F_Taker_free : Mt P w K mg base 1 "Taker" "free" ["self"] (spTFree K) := ok_Taker_free S
  have F_Taker_ready : Mt P w K mg base 1 "Taker" "ready" ["self"] (spTReady K) := ok_Taker_ready S
  have F_Taker_ended : Mt P w K mg base 1 "Taker" "ended" ["self"] (spTEnded K) := ok_Taker_ended S
  have F_Taker_wants : Mt P w K mg base 2 "Taker" "wants" ["self"] (spTWants K) := ok_Taker_wants S F_Taker_free
  have F_Taker_read : Mt P w K mg base 2 "Taker" "read" ["self", "many"] (spTRead K) := ok_Taker_read S F_is_within
  have F_Taker_come_ready : Mt P w K mg base 3 "Taker" "come_ready" ["self", "item"] (spTCome K) := ok_Taker_come_ready S F_moved
  have F_Taker_take : Mt P w K mg base 4 "Taker" "take" ["self", "number", "items"] (spTTake K) := ok_Taker_take S F_Taker_wants F_moved F_far F_Taker_come_ready
  have F_Talk_is_open : Mt P w K mg base 2 "Talk" "is_open" ["self"] (spKOpen K) := ok_Talk_is_open S F_Giver_answered
  have F_Talk_pass_to : Mt P w K mg base 2 "Talk" "pass_to" ["self", "tick"] (spKPass K) := ok_Talk_pass_to S F_need_tick
  have F_Talk_stand : Mt P w K mg base 3 "Talk" "stand" ["self"] (spKStand K) := ok_Talk_stand S F_Talk_is_open F_Taker_ended
  have F_Talk_is_over : Mt P w K mg base 4 "Talk" "is_over" ["self"] (spKOver K) := ok_Talk_is_over S F_Talk_stand
  have F_Talk_is_answer : Mt P w K mg base 4 "Talk" "is_answer" ["self", "answer"] (spKAnswer K) := ok_Talk_is_answer S F_moved F_Giver_answered F_far F_Giver_next_number F_Talk_is_open
  have F_Talk_is_cut_by : Mt P w K mg base 3 "Talk" "is_cut_by" ["self", "segment"] (spKCutBy K) := ok_Talk_is_cut_by S F_Talk_is_open F_Taker_wants F_far
  have F_Talk_made : Mt P w K mg base 5 "Talk" "made" ["self", "marks", "number", "data"] (spKMade K) := ok_Talk_made S F_Taker_wants F_Segment
  have F_Talk_segment_of : Mt P w K mg base 6 "Talk" "segment_of" ["self", "number", "items"] (spKSegOf K) := ok_Talk_segment_of S F_Talk_made
  have F_Talk_begin_taker : Mt P w K mg base 4 "Talk" "begin_taker" ["self", "number"] (spKBegin K) := ok_Talk_begin_taker S F_Taker F_moved
  have F_Talk_take : Mt P w K mg base 5 "Talk" "take" ["self", "number", "items"] (spKTake K) := ok_Talk_take S F_Taker_take F_moved
  have F_Talk_counted : Mt P w K mg base 6 "Talk" "counted" ["self", "segment", "tick"] (spKCounted K) := ok_Talk_counted S F_Segment_numbered F_Giver_heard F_Talk_take F_Taker_ended F_Giver_left F_Talk_made F_Giver_next_number
  have F_Talk_heard : Mt P w K mg base 7 "Talk" "heard" ["self", "segment", "tick"] (spKHeard K) := ok_Talk_heard S F_Talk_pass_to F_Talk_is_over F_Talk_is_answer F_Talk_is_open F_Talk_made F_Talk_is_cut_by F_Talk_begin_taker F_Talk_counted
  have F_Talk_firsts : Mt P w K mg base 1 "Talk" "firsts" ["self"] (spKFirsts K) := ok_Talk_firsts S
  have F_Talk_ready : Mt P w K mg base 2 "Talk" "ready" ["self"] (spKReady K) := ok_Talk_ready S F_Taker_ready
  have F_Talk_read : Mt P w K mg base 3 "Talk" "read" ["self", "many"] (spKRead K) := ok_Talk_read S F_Taker_read
  have F_Talk_write : Mt P w K mg base 5 "Talk" "write" ["self", "data"] (spKWrite K) := ok_Talk_write S F_is_data F_Talk_is_over F_Giver_write
  have F_Talk_finish : Mt P w K mg base 5 "Talk" "finish" ["self"] (spKFinish K) := ok_Talk_finish S F_Talk_is_over F_Giver_finish
  have F_Talk_cut : Mt P w K mg base 6 "Talk" "cut" ["self"] (spKCut K) := ok_Talk_cut S F_Talk_is_over F_Talk_made F_Giver_next_number
  have F_Talk_due : Mt P w K mg base 7 "Talk" "due" ["self", "tick"] (spKDue K) := ok_Talk_due S F_Talk_pass_to F_Talk_is_over F_Giver_due F_Giver_tries F_Talk_segment_of
  have F_Talk4 : Mr P w K mg base 5 "Talk" ["self", "here", "there", "first", "tick", "opening"] [.non] (spKInit4 K) := ok_Talk4 S F_is_number_talks F_need_tick F_Giver F_Talk_begin_taker
  have F_Talk : Mr P w K mg base 5 "Talk" ["self", "here", "there", "first", "tick", "opening"] [] (spKInit5 K) := ok_Talk S F_is_number_talks F_need_tick F_Giver F_Talk_begin_taker
  have F_L_mixed : Fn P w K mg base 1 "_law_mixed" ["_law_cell", "_law_k"] spMixed := ok_L_mixed S
  have F_L_draw : Fn P w K mg base 2 "_law_draw" ["_law_script", "_law_k", "_law_count"] (spDraw K) := ok_L_draw S F_L_mixed
  have F_L_next : Fn P w K mg base 2 "_law_next" ["_law_draw_here", "_law_size"] spNext := ok_L_next S F_L_mixed
  have F_L_first : Fn P w K mg base 3 "_law_first" ["_law_draw_here"] spFirst := ok_L_first S F_L_next
  have F_L_bytes : Fn P w K mg base 3 "_law_bytes" ["_law_draw_here", "_law_many"] spBytes := ok_L_bytes S F_L_next
  have F_L_sent : Fn P w K mg base 1 "_law_sent" ["_law_world", "_law_end", "_law_segments"] (spSent K) := ok_L_sent S
  have F_L_come : Fn P w K mg base 8 "_law_come" ["_law_world", "_law_end", "_law_segment"] (spCome K) := ok_L_come S F_L_sent F_Talk_heard F_Talk
  have F_L_ticked : Fn P w K mg base 8 "_law_ticked" ["_law_world", "_law_many"] (spTicked K) := ok_L_ticked S F_L_sent F_Talk_due
  have F_L_road : Fn P w K mg base 9 "_law_road" ["_law_world", "_law_draw_here"] (spRoad K) := ok_L_road S F_L_next F_L_come
  have F_L_wrote : Fn P w K mg base 6 "_law_wrote" ["_law_world", "_law_end", "_law_data"] (spWrote K) := ok_L_wrote S F_Talk_write
  have F_L_own : Fn P w K mg base 7 "_law_own" ["_law_world", "_law_draw_here"] (spOwn K) := ok_L_own S F_L_next F_L_wrote F_L_bytes F_Talk_read F_Talk_finish F_L_sent F_Talk_cut
  have F_L_right : Fn P w K mg base 4 "_law_right" ["_law_world"] (spRight K) := ok_L_right S F_Talk_ready F_Talk_stand F_Talk_firsts
  have F_L_all_come : Fn P w K mg base 9 "_law_all_come" ["_law_world"] (spAll K) := ok_L_all_come S F_L_come F_Talk_read
  have F_L_ended : Fn P w K mg base 4 "_law_ended" ["_law_world"] (spEnded K) := ok_L_ended S F_Talk_stand
  have F_L_ends_right : Fn P w K mg base 10 "_law_ends_right" ["_law_world"] (spEnds K) := ok_L_ends_right S F_L_all_come F_L_ended F_L_right F_Talk_finish F_L_ticked F_Talk_stand
  have F_L_begun : Fn P w K mg base 7 "_law_begun" ["_law_script"] (spBegun K) := ok_L_begun S F_L_draw F_L_next F_L_first F_Talk4
  have F_Segment_told : Mt P w K mg base 1 "Segment" "told" ["self"] (spSTold K) := ok_Segment_told S
  have F_L_clean : Fn P w K mg base 11 "_law_clean" ["_law_script"] (spClean K) := ok_L_clean S F_L_begun F_L_ticked F_L_all_come F_L_draw F_L_wrote F_L_bytes F_L_next F_L_ends_right F_Talk_stand
  exact ok_law S F F_L_clean F_L_begun F_L_ticked F_Segment_told F_L_draw F_L_next F_L_road F_L_own F_L_right F_L_ends_right
theorem law_binds {K : PySem.W.Frag} {fd : FuncData} (F : FunD K "law" "law" (defArgs s_law) (defBody s_law) (defScope s_law) [] [] (He.fAd K ("law", none)) fd) (s : Shared) (v : Value) : BindsTo s fd ⟨[v], []⟩ [("_law_script", v)] := by
  obtain ⟨oc, od, dV, kV, doc, pm, an, cdv, ct, osl, rfl, lk, hcd, hD, hK⟩ := F.ex
  rcases hD with ⟨_, rfl⟩ | ⟨e, _⟩
  · exact BindsTo.of_eq rfl
  · exact absurd rfl e
theorem facts {P : Program} {w : World} {K : PySem.W.Frag} {h : Heap} {mg : Str → Option Value} {f : Addr} (X : K.In h) (G : h.Ns mainGlobals mg) (hfa : mg ("law" : Str) = some (.ref f)) (c : He.SaysD fa fn K) :
    ∃ fd : FuncData, (∀ (s : Shared) (v : Value), BindsTo s fd ⟨[v], []⟩ [("_law_script", v)]) ∧ ∀ base : Heap, K.In base → base.Ns mainGlobals mg → FnOk P w K mg base CX0 12 f fd ["_law_script"] (spLaw K) := by
  have S : Says K mg := ⟨h, X, G, c⟩
  obtain ⟨fd, F⟩ := S.u_law
  have e : f = He.ga K "law" := by
    have := S.g_law
    rw [hfa] at this
    exact Value.ref.inj (Option.some.inj this)
  subst e
  exact ⟨fd, law_binds F, fun base _ _ => law_all S F⟩
end SW
end
set_option maxRecDepth 100000
set_option maxHeartbeats 0
open PySem PySem.W PySem.Calls PyProof.Rows
theorem PySem.Challenge.cw_surewire_k81_whole_two_talks_holds : PySem.Challenge.rw_surewire_k81_whole_two_talks.Holds := by
  w_on; o_law
  refine HandSHeadRun.head_any (r := OpenLaw.row PySem.Challenge.rw_surewire_k81_whole_two_talks) (q := view (OpenLaw.row PySem.Challenge.rw_surewire_k81_whole_two_talks).prog [70]) (H := SW.hk) (ob := SW.ob) (M := 6000) (loose := SW.nms) (d := HandSHeadRun.topDef (OpenLaw.row PySem.Challenge.rw_surewire_k81_whole_two_talks).prog 70) (kwd := []) SW.ob_eq
    (by kernel_rfl) (fun s => by kernel_rfl) SW.run (by kernel_rfl) (by kernel_rfl) (by kernel_rfl) (by rfl) (by first | assumption | decide +kernel) (by decide +kernel) ⟨rfl, rfl, rfl, rfl, rfl, by decide +kernel⟩ ?hw ?hc
  case hw => w_witness2
  case hc =>
    refine L2.walk_ofE (l := PySem.Challenge.rw_surewire_k81_whole_two_talks) (n := 63) (k := 12) (x := "_law_script") (CX := L2.CX0) rfl (by decide) (by kernel_rfl) ⟨rfl, by decide, by decide⟩ ?F (fun _ _ _ _ z => z)
    intro w mg fa h Y G hmg0
    obtain ⟨K, KX, c⟩ := Y
    have hmg : mg ("law" : PySem.Str) = some (.ref fa) := by
      have e : (HandSHeadRun.topDef (OpenLaw.row PySem.Challenge.rw_surewire_k81_whole_two_talks).prog 70).name = ("law" : PySem.Str) := by kernel_rfl
      rw [← e]
      exact hmg0
    obtain ⟨fd, hb, hF⟩ := SW.facts (P := (PySem.Challenge.rw_surewire_k81_whole_two_talks).prog) (w := w) KX G hmg c
    exact ⟨K, fd, SW.spLaw K, KX, hb, fun H a ns hl _ hS => ⟨a, ns, rfl, hS, hl, fun _ => rfl⟩, hF⟩

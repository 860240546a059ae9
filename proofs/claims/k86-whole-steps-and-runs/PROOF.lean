import PyProof.Rows.All
import PySem.Challenge.RW_squeezedkeyer_k86_whole_steps_and_runs
import Wide.All
import OpenK.AllK
import Wide.FinOn
import HandS.ForMost
import HandS.Defaults
import HandS.Codes
import HandS.IsInst
import HandS.Style
import HandS.Star
import HandS.Wide
import HandS.Flow
import HandS.DictComp
import HandS.More
import HandS.Walk
import HandS.NoneIn
import HandS.Property
import HandS.HeadHook2
import HandS.Head0
import HandS.Head1
import HandS.Head2
import HandS.HeadEnd
import HandS.EndBits
import HandS.FStr
import HandS.RaiseMore
import KE.IntTextLaws
import KE.KRevSl
import PyProof.WalkInts
import PyProof.SumWalkG
import HandS.Sort
import HandS.Conv
import HandS.Replace
import HandS.Text
section
set_option Elab.async false
set_option linter.all false
set_option maxRecDepth 100000
set_option maxHeartbeats 4000000
/-! The mirror of the keyer in plain Lean: kinds, rules, tidy lists, the machine. -/
namespace Sq
open PySem
inductive Kd where
  | s | l
  deriving DecidableEq
def Kd.str : Kd → Str
  | .s => "s"
  | .l => "l"
def Kd.ot : Kd → Kd
  | .s => .l
  | .l => .s
inductive Rm where
  | no | press | held
  deriving DecidableEq
def Rm.str : Rm → Str
  | .no => "none"
  | .press => "press"
  | .held => "held"
inductive Bt where
  | turn | stay | s | l
  deriving DecidableEq
def Bt.str : Bt → Str
  | .turn => "turn"
  | .stay => "stay"
  | .s => "s"
  | .l => "l"
structure Rl where
  s : Int
  l : Int
  p : Int
  d : Int
  rem : Rm
  ag : Bool
  both : Bt
def Rl.len (r : Rl) : Kd → Int
  | .s => r.s
  | .l => r.l
def Rl.per (r : Rl) (k : Kd) : Int := r.len k + r.p
/-- a number of a moderate size -/
def Sz (i : Int) : Prop := i.natAbs < 2 ^ 400
structure Rl.Ok (r : Rl) : Prop where
  s1 : 1 ≤ r.s
  l1 : 1 ≤ r.l
  p1 : 1 ≤ r.p
  d0 : 0 ≤ r.d
  sz : r.s < 2 ^ 300 ∧ r.l < 2 ^ 300 ∧ r.p < 2 ^ 300 ∧ r.d < 2 ^ 302
inductive Wd where
  | one (k : Kd) | two (k : Kd)
  deriving DecidableEq
def Wd.ks : Wd → List Kd
  | .one k => [k]
  | .two k => [k, k.ot]
def Wd.str : Wd → Str
  | .one .s => "s"
  | .one .l => "l"
  | .two .s => "sl"
  | .two .l => "ls"
def Wd.per (r : Rl) (w : Wd) : Int := (w.ks.map r.per).sum
/-! ### tidy lists -/
/-- kind, how many, whether they alternate -/
abbrev Part := Kd × Int × Bool
def lastKind : List Part → Option Kd
  | [] => none
  | (k, m, alt) :: _ => some (if alt && decide (m % 2 = 0) then k.ot else k)
/-- the parts from the last one on -/
def putAlt (k : Kd) (m : Int) : List Part → List Part
  | (f, b, true) :: r => if 0 < m then (f, b + m, true) :: r else (f, b, true) :: r
  | ps => if 0 < m then (k, m, true) :: ps else ps
def putSame (k : Kd) (m : Int) (ps : List Part) : List Part :=
  if lastKind ps ≠ some k then
    if m = 1 then putAlt k 1 ps else (k, m, false) :: ps
  else match ps with
    | [] => []
    | (f, b, alt) :: r => (k, m + (if alt then 1 else b), false) :: (if alt = true ∧ 1 < b then (f, b - 1, true) :: r else r)
def putIn (w : Wd) (t : Int) (ps : List Part) : List Part :=
  match w with
  | .one k => putSame k t ps
  | .two k => putAlt k.ot (2 * t - 1) (putSame k 1 ps)
def putAll (ks : List (Wd × Int)) (ps : List Part) : List Part := ks.foldl (fun ps w => putIn w.1 w.2 ps) ps
/-- one turn of the loop that writes parts out, the first one ahead: what is written, what is left -/
def tidyStep (k : Kd) (m : Int) (alt : Bool) (left : List Part) : List (Wd × Int) × List Part :=
  if alt = false ∧ 1 < m then ([(.one k, m)], left)
  else
    let ahead := m + (if left ≠ [] then 1 else 0)
    let out := if ahead < 4 then (Wd.one k, (1 : Int)) else (Wd.two k, ahead / 2)
    let taken := if ahead < 4 then 1 else ahead / 2 * 2
    ([out],
      if taken < m then ((if taken % 2 = 0 then k else k.ot), m - taken, true) :: left
      else if m < taken then match left with
        | [] => []
        | (a, z, _) :: r => match r with
          | (_, m2, true) :: r2 => if z = 2 then (a, z - 1 + m2, true) :: r2 else (a, z - 1 + 0, decide (z = 2)) :: r
          | _ => (a, z - 1 + 0, decide (z = 2)) :: r
      else left)
def tidyGo : Nat → List Part → List (Wd × Int)
  | 0, _ => []
  | _ + 1, [] => []
  | n + 1, (k, m, alt) :: left => (tidyStep k m alt left).1 ++ tidyGo n (tidyStep k m alt left).2
def msum (ps : List Part) : Nat := (ps.map fun p => p.2.1.toNat).sum
/-- the parts, the last one ahead -/
def tidyParts (ps : List Part) : List (Wd × Int) := tidyGo (msum ps) ps.reverse
def tidyKinds (ks : List (Wd × Int)) : List (Wd × Int) := tidyParts (putAll ks [])
abbrev Run := Int × Wd × Int
def runEnd (r : Rl) (x : Run) : Int := x.1 + x.2.2 * x.2.1.per r
/-- the groups, the last one ahead, each one's kinds in their sequence -/
def groupsGo (r : Rl) : List Run → Option Int → List (Int × List (Wd × Int)) → List (Int × List (Wd × Int))
  | [], _, gs => gs
  | x :: xs, last, gs =>
    let gs1 := match last with
      | none => (x.1, []) :: gs
      | some e => if e < x.1 then (x.1, []) :: gs else gs
    let gs2 := match gs1 with
      | [] => []
      | (b, ks) :: g => (b, ks ++ [(x.2.1, x.2.2)]) :: g
    groupsGo r xs (some (runEnd r x)) gs2
def layGo (r : Rl) : Int → List (Wd × Int) → List Run
  | _, [] => []
  | at_, (w, t) :: ks => (at_, w, t) :: layGo r (at_ + t * w.per r) ks
def tidyRuns (r : Rl) (xs : List Run) : List Run := (groupsGo r xs none []).reverse.flatMap fun g => layGo r g.1 (tidyKinds g.2)
/-! ### the machine -/
inductive Sw where
  | press (k : Kd) | release (k : Kd) | begin (k : Kd) | hear | remember (k : Kd) | idle
  deriving DecidableEq
def Sw.str : Sw → Str
  | .press .s => "press s"
  | .press .l => "press l"
  | .release .s => "release s"
  | .release .l => "release l"
  | .begin .s => "begin s"
  | .begin .l => "begin l"
  | .hear => "hear"
  | .remember .s => "remember s"
  | .remember .l => "remember l"
  | .idle => "idle"
def allSw : List Sw := [.press .s, .press .l, .release .s, .release .l, .begin .s, .begin .l, .hear, .remember .s, .remember .l, .idle]
def Rl.canHear (r : Rl) (k : Kd) : Bool := (decide (r.rem ≠ .no) || r.ag) && decide (r.d < r.per k)
def bothKind (r : Rl) (k : Kd) : Kd := match r.both with
  | .turn => k.ot
  | .stay => k
  | .s => .s
  | .l => .l
def outcome (r : Rl) (k : Kd) (down : List Kd) (other own : Bool) : Option Kd :=
  if other then some k.ot
  else match down with
    | [] => if own then some k else none
    | [d] => some d
    | _ => some (bothKind r k)
structure MSt where
  rules : Rl
  logged : Bool
  kind : Option Kd
  beg : Int
  heard : Bool
  other : Bool
  own : Bool
  down : List Kd
  runs : List Run
  cnt : Sw → Int
  log : List (Int × Sw)
def MSt.new (r : Rl) (logged : Bool) : MSt := ⟨r, logged, none, 0, false, false, false, [], [], fun _ => 0, []⟩
def addC (w : Sw) (n : Int) (c : Sw → Int) : Sw → Int := fun x => if x = w then c x + n else c x
def MSt.note (st : MSt) (tick : Int) (w : Sw) : MSt :=
  { st with cnt := addC w 1 st.cnt, log := if st.logged then st.log ++ [(tick, w)] else st.log }
def MSt.noteOther (st : MSt) (tick : Int) (k : Kd) : MSt := ({ st with other := true }).note tick (.remember k.ot)
def MSt.heldOther (st : MSt) (k : Kd) : Bool := decide (st.rules.rem = .held) && st.rules.canHear k && decide (k.ot ∈ st.down)
def MSt.start (st : MSt) (tick : Int) (k : Kd) : MSt :=
  let h := decide (st.rules.d = 0) && st.rules.canHear k
  let s1 := ({ st with kind := some k, beg := tick, other := false, own := false, heard := h, runs := st.runs ++ [(tick, Wd.one k, 1)] }).note tick (.begin k)
  if h && st.heldOther k then s1.noteOther tick k else s1
def MSt.hear (st : MSt) (tick : Int) (k : Kd) : MSt :=
  let s1 := ({ st with heard := true }).note tick .hear
  if st.heldOther k then s1.noteOther tick k else s1
def MSt.decide (st : MSt) (tick : Int) (k : Kd) : MSt :=
  match outcome st.rules k st.down st.other st.own with
  | none => ({ st with kind := none, other := false, own := false }).note tick .idle
  | some k' => st.start tick k'
def MSt.following (st : MSt) (k : Kd) : Option Kd := outcome st.rules k st.down (st.heldOther k) false
/-- the counts of one kind of a skipped word -/
def skipC (st : MSt) (t : Int) (c : Sw → Int) (k : Kd) : Sw → Int :=
  let c1 := addC (.begin k) t c
  let c2 := if st.rules.canHear k && Decidable.decide (0 < st.rules.d) then addC .hear t c1 else c1
  if st.heldOther k then addC (.remember k.ot) t c2 else c2
def MSt.skip (st : MSt) (w : Wd) (t : Int) (k : Kd) : MSt :=
  { st with runs := st.runs ++ [(st.beg + st.rules.per k, w, t)], cnt := w.ks.foldl (skipC st t) st.cnt, beg := st.beg + w.per st.rules * t }
def MSt.word (st : MSt) (k : Kd) : Option Wd :=
  match st.following k with
  | none => none
  | some k' => if k' = k then some (.one k) else if st.following k' = some k then some (.two k') else none
def MSt.jump (st : MSt) (tick : Int) (k : Kd) : MSt :=
  match st.word k with
  | none => st
  | some w => if st.logged then st else
    let t := (tick - st.beg) / w.per st.rules
    if 0 < t then st.skip w t k else st
/-- one turn of the clock: the state, and whether it goes on -/
def MSt.turn (st : MSt) (tick : Int) (k : Kd) : MSt × Bool :=
  if st.rules.canHear k && !st.heard && Decidable.decide (tick < st.beg + st.rules.d) then (st, false)
  else
    let s1 := if st.rules.canHear k && !st.heard then st.hear (st.beg + st.rules.d) k else st
    if tick < s1.beg + s1.rules.per k then (s1, false)
    else
      let s2 := s1.decide (s1.beg + s1.rules.per k) k
      match s2.kind with
      | none => (s2, true)
      | some k' => (s2.jump tick k', true)
def advGo : Nat → Int → MSt → MSt
  | 0, _, st => st
  | n + 1, tick, st => match st.kind with
    | none => st
    | some k => match st.turn tick k with
      | (s1, false) => s1
      | (s1, true) => advGo n tick s1
def MSt.adv (st : MSt) (tick : Int) : MSt := advGo 2000 tick st
def MSt.happen (st : MSt) (tick : Int) (k : Kd) (dn : Bool) : MSt :=
  let s1 := st.note tick (if dn then .press k else .release k)
  if dn = false then { s1 with down := s1.down.filter fun o => Decidable.decide (o ≠ k) }
  else
    let s2 := { s1 with down := if k = Kd.s then s1.down ++ [k] else k :: s1.down }
    match s2.kind with
    | none => s2.start tick k
    | some k' =>
      if s2.heard && Decidable.decide (k = k') && s2.rules.ag && !s2.own then ({ s2 with own := true }).note tick (.remember k)
      else if s2.heard && Decidable.decide (k ≠ k') && Decidable.decide (s2.rules.rem ≠ .no) && !s2.other then s2.noteOther tick k'
      else s2
def finGo : Nat → MSt → MSt
  | 0, st => st
  | n + 1, st => match st.kind with
    | none => st
    | some k => finGo n (st.adv (st.beg + st.rules.per k))
def MSt.fin (st : MSt) : MSt := finGo 4 st
def MSt.tidy (st : MSt) : List Run := tidyRuns st.rules st.runs
abbrev Ev := Int × Kd × Bool
def MSt.ev (st : MSt) (e : Ev) : MSt := (st.adv e.1).happen e.1 e.2.1 e.2.2
def MSt.evs (st : MSt) (es : List Ev) : MSt := es.foldl MSt.ev st
def behind (r : Rl) (rec : List Ev) (logged : Bool) : MSt := ((MSt.new r logged).evs rec).fin
end Sq
end
section
set_option Elab.async false
set_option linter.all false
/-! Tidy lists: invariants, sums. -/
namespace Sq
open PySem
/-- the parts are right: at least two of one kind, no two neighbours that alternate -/
def PI : List Part → Prop
  | [] => True
  | (_, m, alt) :: r => 1 ≤ m ∧ (alt = false → 2 ≤ m) ∧ (alt = true → ∀ p r', r = p :: r' → p.2.2 = false) ∧ PI r
def psum : List Part → Int
  | [] => 0
  | p :: r => p.2.1 + psum r
theorem PI.tl {p : Part} {r : List Part} (h : PI (p :: r)) : PI r := by
  obtain ⟨_, _, _⟩ := p
  exact h.2.2.2
theorem psum_app : ∀ (a b : List Part), psum (a ++ b) = psum a + psum b
  | [], b => by simp [psum]
  | p :: a, b => by
    rw [List.cons_append]
    show p.2.1 + psum (a ++ b) = p.2.1 + psum a + psum b
    rw [psum_app a b]
    omega
theorem psum_rev : ∀ (a : List Part), psum a.reverse = psum a
  | [] => rfl
  | p :: a => by
    rw [List.reverse_cons, psum_app, psum_rev a]
    show psum a + (p.2.1 + 0) = p.2.1 + psum a
    omega
theorem PI.nn : ∀ {ps : List Part}, PI ps → 0 ≤ psum ps
  | [], _ => Int.le_refl _
  | (k, m, alt) :: r, h => by
    have := PI.nn h.tl
    have := h.1
    show 0 ≤ m + psum r
    omega
theorem PI.msum : ∀ {ps : List Part}, PI ps → (msum ps : Int) = psum ps
  | [], _ => rfl
  | (k, m, alt) :: r, h => by
    have h1 := PI.msum h.tl
    have h2 := h.1
    unfold Sq.msum at h1 ⊢
    rw [List.map_cons, List.sum_cons]
    show ((m.toNat + (r.map fun p => p.2.1.toNat).sum : Nat) : Int) = m + psum r
    omega
/-- adjacency from the other side -/
theorem PI.snoc : ∀ {ps : List Part} {p : Part}, PI ps → 1 ≤ p.2.1 → (p.2.2 = false → 2 ≤ p.2.1) → (p.2.2 = true → ∀ q, ps.getLast? = some q → q.2.2 = false) → PI (ps ++ [p])
  | [], (k, m, alt), _, h1, h2, _ => ⟨h1, h2, fun _ _ _ e => (List.cons_ne_nil _ _ e.symm).elim, trivial⟩
  | (k, m, alt) :: r, p, h, h1, h2, h3 => by
    refine ⟨h.1, h.2.1, fun ha q r' e => ?_, PI.snoc h.tl h1 h2 fun hp q hq => h3 hp q ?_⟩
    · cases r with
      | nil =>
        obtain ⟨rfl, _⟩ := List.cons.inj (show p :: [] = q :: r' from e)
        cases hb : p.2.2 with
        | false => rfl
        | true => exact (Bool.noConfusion (ha.symm.trans (h3 hb (k, m, alt) rfl)))
      | cons x xs =>
        obtain ⟨rfl, _⟩ := List.cons.inj (show x :: (xs ++ [p]) = q :: r' from e)
        exact h.2.2.1 ha x xs rfl
    · cases r with
      | nil => cases hq
      | cons x xs => rw [List.getLast?_cons_cons]; exact hq
theorem PI.rev : ∀ {ps : List Part}, PI ps → PI ps.reverse
  | [], _ => trivial
  | (k, m, alt) :: r, h => by
    rw [List.reverse_cons]
    refine PI.snoc (PI.rev h.tl) h.1 h.2.1 fun ha q hq => ?_
    rw [List.getLast?_reverse] at hq
    cases r with
    | nil => cases hq
    | cons x xs =>
      obtain rfl := Option.some.inj (show some x = some q from hq)
      exact h.2.2.1 ha x xs rfl
theorem putAlt_ok {k : Kd} {m : Int} {ps : List Part} (h : PI ps) (hm : 0 ≤ m) : PI (putAlt k m ps) ∧ psum (putAlt k m ps) = psum ps + m := by
  match ps, h with
  | [], h =>
    unfold putAlt
    simp only
    split
    · exact ⟨⟨by omega, fun e => Bool.noConfusion e, fun _ _ _ e => (List.cons_ne_nil _ _ e.symm).elim, trivial⟩, by simp only [psum]; omega⟩
    · exact ⟨h, by simp only [psum]; omega⟩
  | (f, b, true) :: r, h =>
    unfold putAlt
    simp only
    split
    · exact ⟨⟨by have := h.1; omega, fun e => Bool.noConfusion e, h.2.2.1, h.tl⟩, by simp only [psum]; omega⟩
    · exact ⟨h, by omega⟩
  | (f, b, false) :: r, h =>
    unfold putAlt
    simp only
    split
    · exact ⟨⟨by omega, fun e => Bool.noConfusion e, fun _ q r' e => by rw [← (List.cons.inj e).1], h⟩, by simp only [psum]; omega⟩
    · exact ⟨h, by omega⟩
theorem putSame_ok {k : Kd} {m : Int} {ps : List Part} (h : PI ps) (hm : 1 ≤ m) : PI (putSame k m ps) ∧ psum (putSame k m ps) = psum ps + m := by
  unfold putSame
  split
  · split
    · rename_i e
      subst e
      exact putAlt_ok h (by omega)
    · exact ⟨⟨hm, fun _ => by omega, fun e => Bool.noConfusion e, h⟩, by simp only [psum]; omega⟩
  · rename_i hl
    match ps, h with
    | [], h => exact absurd (show lastKind [] ≠ some k from fun e => by cases e) hl
    | (f, b, alt) :: r, h =>
      simp only
      have hb := h.1
      cases alt with
      | true =>
        simp only [if_true, true_and]
        split
        · exact ⟨⟨by omega, fun _ => by omega, fun e => Bool.noConfusion e, ⟨by omega, fun e => Bool.noConfusion e, h.2.2.1, h.tl⟩⟩, by simp only [psum]; omega⟩
        · exact ⟨⟨by omega, fun _ => by omega, fun e => Bool.noConfusion e, h.tl⟩, by simp only [psum]; omega⟩
      | false =>
        simp only [Bool.false_eq_true, if_false, false_and]
        exact ⟨⟨by omega, fun _ => by omega, fun e => Bool.noConfusion e, h.tl⟩, by simp only [psum]; omega⟩
/-- how many marks -/
def tot : List (Wd × Int) → Int
  | [] => 0
  | x :: r => x.1.ks.length * x.2 + tot r
theorem tot_app : ∀ (a b : List (Wd × Int)), tot (a ++ b) = tot a + tot b
  | [], b => by simp [tot]
  | p :: a, b => by
    rw [List.cons_append]
    show _ + tot (a ++ b) = _ + tot a + tot b
    rw [tot_app a b]
    omega
theorem putIn_ok {w : Wd} {t : Int} {ps : List Part} (h : PI ps) (ht : 1 ≤ t) : PI (putIn w t ps) ∧ psum (putIn w t ps) = psum ps + w.ks.length * t := by
  cases w with
  | one k =>
    obtain ⟨h1, h2⟩ := putSame_ok (k := k) h ht
    refine ⟨h1, h2.trans ?_⟩
    show _ = psum ps + (1 : Int) * t
    omega
  | two k =>
    obtain ⟨h1, h2⟩ := putSame_ok (k := k) h (Int.le_refl 1)
    obtain ⟨h3, h4⟩ := putAlt_ok (k := k.ot) (m := 2 * t - 1) h1 (by omega)
    refine ⟨h3, h4.trans ?_⟩
    rw [h2]
    show _ = psum ps + (2 : Int) * t
    omega
theorem putAll_ok : ∀ {ks : List (Wd × Int)} {ps : List Part}, PI ps → (∀ x ∈ ks, 1 ≤ x.2) → PI (putAll ks ps) ∧ psum (putAll ks ps) = psum ps + tot ks
  | [], ps, h, _ => ⟨h, by show psum ps = psum ps + 0; omega⟩
  | x :: ks, ps, h, hx => by
    obtain ⟨h1, h2⟩ := putIn_ok (w := x.1) h (hx x (List.mem_cons_self ..))
    obtain ⟨h3, h4⟩ := putAll_ok (ks := ks) h1 fun y hy => hx y (List.mem_cons_of_mem _ hy)
    refine ⟨h3, ?_⟩
    show psum (putAll ks (putIn x.1 x.2 ps)) = psum ps + (x.1.ks.length * x.2 + tot ks)
    rw [h4, h2]
    omega
/-- a turn of the loop that writes out -/
theorem tidyStep_ok {k : Kd} {m : Int} {alt : Bool} {left : List Part} (h : PI ((k, m, alt) :: left)) :
    PI (tidyStep k m alt left).2 ∧ (∀ x ∈ (tidyStep k m alt left).1, 1 ≤ x.2) ∧ 1 ≤ tot (tidyStep k m alt left).1 ∧ psum (tidyStep k m alt left).2 + tot (tidyStep k m alt left).1 = m + psum left := by
  have hm : 1 ≤ m := h.1
  have hl : PI left := h.tl
  unfold tidyStep
  split
  · rename_i hc
    refine ⟨hl, fun x hx => ?_, ?_, ?_⟩
    · rw [List.mem_singleton.mp hx]
      exact hm
    · show 1 ≤ (1 : Int) * m + 0
      omega
    · show psum left + ((1 : Int) * m + 0) = _
      omega
  · rename_i hc
    have ha : alt = true := by
      cases alt with
      | true => rfl
      | false =>
        have := h.2.1 rfl
        exact absurd ⟨rfl, by omega⟩ hc
    subst ha
    have hn := h.2.2.1 rfl
    simp only
    by_cases h4 : m + (if left ≠ [] then 1 else 0) < 4
    · simp only [if_pos h4]
      by_cases h5 : (1 : Int) < m
      · rw [if_pos h5]
        refine ⟨⟨by omega, fun e => Bool.noConfusion e, fun _ => hn, hl⟩, fun x hx => ?_, ?_, ?_⟩
        · rw [List.mem_singleton.mp hx]
          exact Int.le_refl 1
        · show 1 ≤ (1 : Int) * 1 + 0
          omega
        · show m - 1 + psum left + ((1 : Int) * 1 + 0) = _
          omega
      · rw [if_neg h5, if_neg (show ¬ m < 1 by omega)]
        refine ⟨hl, fun x hx => ?_, ?_, ?_⟩
        · rw [List.mem_singleton.mp hx]
          exact Int.le_refl 1
        · show 1 ≤ (1 : Int) * 1 + 0
          omega
        · show psum left + ((1 : Int) * 1 + 0) = _
          omega
    · simp only [if_neg h4]
      generalize ht : m + (if left ≠ [] then (1 : Int) else 0) = ahead at h4 ⊢
      have hah : m ≤ ahead ∧ ahead ≤ m + 1 := by
        rw [← ht]
        split <;> omega
      refine ⟨?_, fun x hx => ?_, ?_, ?_⟩
      · by_cases h5 : ahead / 2 * 2 < m
        · rw [if_pos h5]
          exact ⟨by omega, fun e => Bool.noConfusion e, fun _ => hn, hl⟩
        · rw [if_neg h5]
          by_cases h6 : m < ahead / 2 * 2
          · rw [if_pos h6]
            match left, hl, hn with
            | [], _, _ => trivial
            | (a, z, al) :: r, hl, hn =>
              have e1 : al = false := hn _ _ rfl
              subst e1
              have hz : 2 ≤ z := hl.2.1 rfl
              match r, hl with
              | [], hl =>
                simp only
                by_cases hz2 : z = 2
                · rw [decide_eq_true hz2]
                  exact ⟨by omega, fun e => Bool.noConfusion e, fun _ _ _ e => (List.cons_ne_nil _ _ e.symm).elim, trivial⟩
                · rw [decide_eq_false hz2]
                  exact ⟨by omega, fun _ => by omega, fun e => Bool.noConfusion e, trivial⟩
              | (b, m2, true) :: r2, hl =>
                simp only
                by_cases hz2 : z = 2
                · rw [if_pos hz2]
                  have h7 := hl.tl
                  exact ⟨by have := h7.1; omega, fun e => Bool.noConfusion e, h7.2.2.1, h7.tl⟩
                · rw [if_neg hz2, decide_eq_false hz2]
                  exact ⟨by omega, fun _ => by omega, fun e => Bool.noConfusion e, hl.tl⟩
              | (b, m2, false) :: r2, hl =>
                simp only
                by_cases hz2 : z = 2
                · rw [decide_eq_true hz2]
                  exact ⟨by omega, fun e => Bool.noConfusion e, fun _ q r' e => by rw [← (List.cons.inj e).1], hl.tl⟩
                · rw [decide_eq_false hz2]
                  exact ⟨by omega, fun _ => by omega, fun e => Bool.noConfusion e, hl.tl⟩
          · rw [if_neg h6]
            exact hl
      · rw [List.mem_singleton.mp hx]
        show 1 ≤ ahead / 2
        omega
      · show 1 ≤ (2 : Int) * (ahead / 2) + 0
        omega
      · show _ + ((2 : Int) * (ahead / 2) + 0) = _
        by_cases h5 : ahead / 2 * 2 < m
        · rw [if_pos h5]
          show m - ahead / 2 * 2 + psum left + _ = _
          omega
        · rw [if_neg h5]
          by_cases h6 : m < ahead / 2 * 2
          · rw [if_pos h6]
            match left, hl, hn with
            | [], _, _ =>
              simp only [ne_eq, not_true_eq_false, if_false] at ht
              omega
            | (a, z, al) :: r, hl, hn =>
              match r, hl with
              | [], hl =>
                show z - 1 + 0 + 0 + (2 * (ahead / 2) + 0) = m + (z + 0)
                omega
              | (b, m2, true) :: r2, hl =>
                simp only
                by_cases hz2 : z = 2
                · rw [if_pos hz2]
                  show z - 1 + m2 + psum r2 + (2 * (ahead / 2) + 0) = m + (z + (m2 + psum r2))
                  omega
                · rw [if_neg hz2]
                  show z - 1 + 0 + (m2 + psum r2) + (2 * (ahead / 2) + 0) = m + (z + (m2 + psum r2))
                  omega
              | (b, m2, false) :: r2, hl =>
                show z - 1 + 0 + (m2 + psum r2) + (2 * (ahead / 2) + 0) = m + (z + (m2 + psum r2))
                omega
          · rw [if_neg h6]
            omega
theorem tidyGo_ok : ∀ {n : Nat} {ps : List Part}, PI ps → psum ps ≤ n → tot (tidyGo n ps) = psum ps ∧ ∀ x ∈ tidyGo n ps, 1 ≤ x.2
  | 0, [], _, _ => ⟨rfl, fun _ h => by cases h⟩
  | 0, (k, m, alt) :: r, h, hn => by
    have h1 := h.1
    have h2 := h.tl.nn
    have h3 : m + psum r ≤ 0 := hn
    omega
  | n + 1, [], _, _ => ⟨rfl, fun _ h => by cases h⟩
  | n + 1, (k, m, alt) :: r, h, hn => by
    obtain ⟨h1, h2, h3, h4⟩ := tidyStep_ok h
    have h5 : m + psum r ≤ (n : Int) + 1 := hn
    obtain ⟨h6, h7⟩ := tidyGo_ok (n := n) h1 (by omega)
    refine ⟨?_, fun x hx => ?_⟩
    · show tot ((tidyStep k m alt r).1 ++ tidyGo n (tidyStep k m alt r).2) = m + psum r
      rw [tot_app, h6]
      omega
    · rcases List.mem_append.mp (show x ∈ (tidyStep k m alt r).1 ++ tidyGo n (tidyStep k m alt r).2 from hx) with e | e
      · exact h2 x e
      · exact h7 x e
theorem tidyParts_ok {ps : List Part} (h : PI ps) : tot (tidyParts ps) = psum ps ∧ ∀ x ∈ tidyParts ps, 1 ≤ x.2 := by
  have h1 := h.msum
  have h2 := tidyGo_ok (n := msum ps) h.rev (by rw [psum_rev]; omega)
  rw [psum_rev] at h2
  exact h2
theorem tidyKinds_ok {ks : List (Wd × Int)} (h : ∀ x ∈ ks, 1 ≤ x.2) : tot (tidyKinds ks) = tot ks ∧ ∀ x ∈ tidyKinds ks, 1 ≤ x.2 := by
  obtain ⟨h1, h2⟩ := putAll_ok (ps := []) trivial h
  obtain ⟨h3, h4⟩ := tidyParts_ok h1
  refine ⟨?_, h4⟩
  show tot (tidyParts _) = _
  rw [h3, h2]
  show 0 + tot ks = tot ks
  omega
theorem tot_nn : ∀ {ks : List (Wd × Int)}, (∀ x ∈ ks, 1 ≤ x.2) → 0 ≤ tot ks
  | [], _ => Int.le_refl _
  | x :: ks, h => by
    have h1 := tot_nn (ks := ks) fun y hy => h y (List.mem_cons_of_mem _ hy)
    have h2 := h x (List.mem_cons_self ..)
    have h3 : 0 ≤ (x.1.ks.length : Int) * x.2 := Int.mul_nonneg (by omega) (by omega)
    show 0 ≤ (x.1.ks.length : Int) * x.2 + tot ks
    omega
theorem Wd.len1 : ∀ w : Wd, 1 ≤ w.ks.length
  | .one _ => Nat.le_refl 1
  | .two _ => Nat.le_succ 1
theorem tot_mem : ∀ {ks : List (Wd × Int)}, (∀ x ∈ ks, 1 ≤ x.2) → ∀ x ∈ ks, x.2 ≤ tot ks
  | [], _, x, hx => by cases hx
  | y :: ks, h, x, hx => by
    have h1 := tot_nn (ks := ks) fun z hz => h z (List.mem_cons_of_mem _ hz)
    have h2 := h y (List.mem_cons_self ..)
    have h3 : y.2 ≤ (y.1.ks.length : Int) * y.2 := by
      have := y.1.len1
      have h4 : (1 : Int) * y.2 ≤ (y.1.ks.length : Int) * y.2 := Int.mul_le_mul_of_nonneg_right (by omega) (by omega)
      omega
    show x.2 ≤ (y.1.ks.length : Int) * y.2 + tot ks
    rcases List.mem_cons.mp hx with rfl | hx
    · omega
    · have := tot_mem (ks := ks) (fun z hz => h z (List.mem_cons_of_mem _ hz)) x hx
      omega
theorem putAlt_len (k : Kd) (m : Int) (ps : List Part) : (putAlt k m ps).length ≤ ps.length + 1 := by
  unfold putAlt
  split <;> split <;> simp
theorem putSame_len (k : Kd) (m : Int) (ps : List Part) : (putSame k m ps).length ≤ ps.length + 1 := by
  unfold putSame
  split
  · split
    · exact putAlt_len k 1 ps
    · simp
  · match ps with
    | [] => simp
    | (f, b, alt) :: r =>
      simp only [List.length_cons]
      split <;> simp
theorem putIn_len (w : Wd) (t : Int) (ps : List Part) : (putIn w t ps).length ≤ ps.length + 2 := by
  cases w with
  | one k => exact Nat.le_succ_of_le (putSame_len k t ps)
  | two k =>
    have h1 := putSame_len k 1 ps
    have h2 := putAlt_len k.ot (2 * t - 1) (putSame k 1 ps)
    show (putAlt k.ot (2 * t - 1) (putSame k 1 ps)).length ≤ _
    omega
theorem putAll_len : ∀ (ks : List (Wd × Int)) (ps : List Part), (putAll ks ps).length ≤ ps.length + 2 * ks.length
  | [], ps => Nat.le_refl _
  | x :: ks, ps => by
    have h1 := putIn_len x.1 x.2 ps
    have h2 := putAll_len ks (putIn x.1 x.2 ps)
    show (putAll ks (putIn x.1 x.2 ps)).length ≤ _
    rw [List.length_cons]
    omega
theorem tidyGo_fuel : ∀ {n m : Nat} {ps : List Part}, PI ps → psum ps ≤ n → psum ps ≤ m → tidyGo n ps = tidyGo m ps
  | 0, m, [], _, _, _ => by cases m <;> rfl
  | n + 1, 0, [], _, _, _ => rfl
  | n + 1, m + 1, [], _, _, _ => rfl
  | 0, m, (k, c, alt) :: r, h, hn, _ => by
    have h1 := h.1
    have h2 := h.tl.nn
    have h3 : c + psum r ≤ (0 : Nat) := hn
    omega
  | n + 1, 0, (k, c, alt) :: r, h, _, hn => by
    have h1 := h.1
    have h2 := h.tl.nn
    have h3 : c + psum r ≤ (0 : Nat) := hn
    omega
  | n + 1, m + 1, (k, c, alt) :: r, h, hn, hm => by
    obtain ⟨h1, h2, h3, h4⟩ := tidyStep_ok h
    have h5 : c + psum r ≤ (n : Int) + 1 := hn
    have h6 : c + psum r ≤ (m : Int) + 1 := hm
    show _ ++ tidyGo n _ = _ ++ tidyGo m _
    rw [tidyGo_fuel (n := n) (m := m) h1 (by omega) (by omega)]
theorem tidyGo_step {k : Kd} {m : Int} {alt : Bool} {r : List Part} (h : PI ((k, m, alt) :: r)) : tidyGo (msum ((k, m, alt) :: r)) ((k, m, alt) :: r) = (tidyStep k m alt r).1 ++ tidyGo (msum (tidyStep k m alt r).2) (tidyStep k m alt r).2 ∧ msum (tidyStep k m alt r).2 < msum ((k, m, alt) :: r) := by
  obtain ⟨h1, h2, h3, h4⟩ := tidyStep_ok h
  have h5 := h.msum
  have h6 := h1.msum
  have h7 : psum ((k, m, alt) :: r) = m + psum r := rfl
  have h8 : 1 ≤ m := h.1
  have h9 := h.tl.nn
  obtain ⟨n, hn⟩ : ∃ n, msum ((k, m, alt) :: r) = n + 1 := ⟨msum ((k, m, alt) :: r) - 1, by omega⟩
  refine ⟨?_, by omega⟩
  rw [hn]
  show _ ++ tidyGo n _ = _
  rw [tidyGo_fuel (n := n) (m := msum (tidyStep k m alt r).2) h1 (by omega) (by omega)]
/-- how many items a part may still give -/
def wt : List Part → Nat
  | [] => 0
  | (_, m, alt) :: r => (if alt then min m.toNat 4 else 4) + wt r
theorem wt_le : ∀ (ps : List Part), wt ps ≤ 4 * ps.length
  | [] => Nat.le_refl _
  | (k, m, alt) :: r => by
    have := wt_le r
    show (if alt then min m.toNat 4 else 4) + wt r ≤ 4 * (r.length + 1)
    split <;> omega
theorem wt_app : ∀ (a b : List Part), wt (a ++ b) = wt a + wt b
  | [], b => by simp [wt]
  | (k, m, alt) :: a, b => by
    show _ + wt (a ++ b) = _ + wt a + wt b
    rw [wt_app a b]
    omega
theorem wt_rev : ∀ (a : List Part), wt a.reverse = wt a
  | [] => rfl
  | (k, m, alt) :: a => by
    rw [List.reverse_cons, wt_app, wt_rev a]
    show wt a + (_ + 0) = _ + wt a
    omega
theorem tidyStep_wt {k : Kd} {m : Int} {alt : Bool} {left : List Part} (h : PI ((k, m, alt) :: left)) : wt (tidyStep k m alt left).2 + (tidyStep k m alt left).1.length ≤ wt ((k, m, alt) :: left) := by
  have hm : 1 ≤ m := h.1
  have hl : PI left := h.tl
  have ew : wt ((k, m, alt) :: left) = (if alt then min m.toNat 4 else 4) + wt left := rfl
  rw [ew]
  unfold tidyStep
  split
  · rename_i hc
    rw [hc.1]
    show wt left + 1 ≤ 4 + wt left
    omega
  · rename_i hc
    have ha : alt = true := by
      cases alt with
      | true => rfl
      | false =>
        have := h.2.1 rfl
        exact absurd ⟨rfl, by omega⟩ hc
    subst ha
    have hn := h.2.2.1 rfl
    rw [show (if true = true then min m.toNat 4 else 4) = min m.toNat 4 from if_pos rfl]
    simp only
    by_cases h4 : m + (if left ≠ [] then 1 else 0) < 4
    · simp only [if_pos h4]
      by_cases h5 : (1 : Int) < m
      · rw [if_pos h5]
        have h7 : m < 4 := by split at h4 <;> omega
        show (if true then min (m - 1).toNat 4 else 4) + wt left + 1 ≤ min m.toNat 4 + wt left
        simp only [if_true]
        omega
      · rw [if_neg h5, if_neg (show ¬ m < 1 by omega)]
        show wt left + 1 ≤ min m.toNat 4 + wt left
        omega
    · simp only [if_neg h4]
      generalize ht : m + (if left ≠ [] then (1 : Int) else 0) = ahead at h4 ⊢
      have hah : m ≤ ahead ∧ ahead ≤ m + 1 := by
        rw [← ht]
        split <;> omega
      show _ + 1 ≤ _
      by_cases h5 : ahead / 2 * 2 < m
      · rw [if_pos h5]
        show (if true then min (m - ahead / 2 * 2).toNat 4 else 4) + wt left + 1 ≤ _
        simp only [if_true]
        omega
      · rw [if_neg h5]
        by_cases h6 : m < ahead / 2 * 2
        · rw [if_pos h6]
          match left, hl, hn with
          | [], _, _ =>
            show 0 + 1 ≤ min m.toNat 4 + 0
            omega
          | (a, z, al) :: r, hl, hn =>
            have e1 : al = false := hn _ _ rfl
            subst e1
            have hz : 2 ≤ z := hl.2.1 rfl
            have e5 : wt ((a, z, false) :: r) = 4 + wt r := rfl
            rw [e5]
            match r, hl with
            | [], hl =>
              simp only
              by_cases hz2 : z = 2
              · rw [decide_eq_true hz2]
                show min (z - 1 + 0).toNat 4 + 0 + 1 ≤ min m.toNat 4 + (4 + 0)
                omega
              · rw [decide_eq_false hz2]
                show 4 + 0 + 1 ≤ min m.toNat 4 + (4 + 0)
                omega
            | (b, m2, true) :: r2, hl =>
              simp only
              by_cases hz2 : z = 2
              · rw [if_pos hz2]
                show min (z - 1 + m2).toNat 4 + wt r2 + 1 ≤ min m.toNat 4 + (4 + (min m2.toNat 4 + wt r2))
                omega
              · rw [if_neg hz2, decide_eq_false hz2]
                show 4 + (min m2.toNat 4 + wt r2) + 1 ≤ min m.toNat 4 + (4 + (min m2.toNat 4 + wt r2))
                omega
            | (b, m2, false) :: r2, hl =>
              simp only
              by_cases hz2 : z = 2
              · rw [decide_eq_true hz2]
                show min (z - 1 + 0).toNat 4 + (4 + wt r2) + 1 ≤ min m.toNat 4 + (4 + (4 + wt r2))
                omega
              · rw [decide_eq_false hz2]
                show 4 + (4 + wt r2) + 1 ≤ min m.toNat 4 + (4 + (4 + wt r2))
                omega
        · rw [if_neg h6]
          show wt left + 1 ≤ _
          omega
theorem wt_len : ∀ {ps : List Part}, PI ps → ps.length ≤ wt ps
  | [], _ => Nat.le_refl _
  | (k, m, alt) :: r, h => by
    have h1 := wt_len h.tl
    have h2 := h.1
    show r.length + 1 ≤ (if alt then min m.toNat 4 else 4) + wt r
    split <;> omega
section
variable {k : Kd} {m ah : Int} {r : List Part}
theorem ts0 (h : 1 < m) : tidyStep k m false r = ([(.one k, m)], r) := by
  unfold tidyStep
  rw [if_pos ⟨rfl, h⟩]
theorem tsA1 (e : m + (if r ≠ [] then (1 : Int) else 0) = ah) (h : ah < 4) (h1 : 1 < m) : tidyStep k m true r = ([(.one k, 1)], (k.ot, m - 1, true) :: r) := by
  unfold tidyStep
  rw [if_neg fun z => Bool.noConfusion z.1]
  simp only
  rw [e]
  simp only [if_pos h, if_pos h1]
  rw [if_neg (by decide)]
theorem tsA2 (e : m + (if r ≠ [] then (1 : Int) else 0) = ah) (h : ah < 4) (h1 : m = 1) : tidyStep k m true r = ([(.one k, 1)], r) := by
  subst h1
  unfold tidyStep
  rw [if_neg fun z => Bool.noConfusion z.1]
  simp only
  rw [e]
  simp only [if_pos h]
  rw [if_neg (by decide), if_neg (by decide)]
theorem tsB1 (e : m + (if r ≠ [] then (1 : Int) else 0) = ah) (h : ¬ ah < 4) (h1 : ah / 2 * 2 < m) : tidyStep k m true r = ([(.two k, ah / 2)], (k, m - ah / 2 * 2, true) :: r) := by
  unfold tidyStep
  rw [if_neg fun z => Bool.noConfusion z.1]
  simp only
  rw [e]
  simp only [if_neg h, if_pos h1]
  rw [if_pos (by omega)]
theorem tsB3 (e : m + (if r ≠ [] then (1 : Int) else 0) = ah) (h : ¬ ah < 4) (h1 : ah / 2 * 2 = m) : tidyStep k m true r = ([(.two k, ah / 2)], r) := by
  unfold tidyStep
  rw [if_neg fun z => Bool.noConfusion z.1]
  simp only
  rw [e]
  simp only [if_neg h, if_neg (show ¬ ah / 2 * 2 < m by omega), if_neg (show ¬ m < ah / 2 * 2 by omega)]
theorem tsB2b {a b : Kd} {z m2 : Int} {al : Bool} {r2 : List Part} (h : ¬ ah < 4) (h1 : m < ah / 2 * 2) (hz : z = 2) (e : m + (if (a, z, al) :: (b, m2, true) :: r2 ≠ [] then (1 : Int) else 0) = ah) : tidyStep k m true ((a, z, al) :: (b, m2, true) :: r2) = ([(.two k, ah / 2)], (a, z - 1 + m2, true) :: r2) := by
  unfold tidyStep
  rw [if_neg fun z => Bool.noConfusion z.1]
  simp only
  rw [e]
  simp only [if_neg h, if_neg (show ¬ ah / 2 * 2 < m by omega), if_pos h1, if_pos hz]
theorem tsB2a {a : Kd} {z : Int} {al : Bool} {r' : List Part} (h : ¬ ah < 4) (h1 : m < ah / 2 * 2) (hx : ∀ b m2 r2, r' = (b, m2, true) :: r2 → z ≠ 2) (e : m + (if (a, z, al) :: r' ≠ [] then (1 : Int) else 0) = ah) : tidyStep k m true ((a, z, al) :: r') = ([(.two k, ah / 2)], (a, z - 1 + 0, decide (z = 2)) :: r') := by
  unfold tidyStep
  rw [if_neg fun z => Bool.noConfusion z.1]
  simp only
  rw [e]
  simp only [if_neg h, if_neg (show ¬ ah / 2 * 2 < m by omega), if_pos h1]
  match r' with
  | [] => rfl
  | (b, m2, false) :: r2 => rfl
  | (b, m2, true) :: r2 => simp only [if_neg (hx b m2 r2 rfl)]
end
end Sq
end
section
set_option Elab.async false
set_option linter.all false
/-! Runs: groups, sums. -/
namespace Sq
open PySem
abbrev Grp := Int × List (Wd × Int)
def csum (c : Wd × Int → Int) : List (Wd × Int) → Int
  | [] => 0
  | x :: r => c x + csum c r
def gsum (c : Wd × Int → Int) : List Grp → Int
  | [] => 0
  | g :: r => csum c g.2 + gsum c r
def rsum (c : Wd × Int → Int) : List Run → Int
  | [] => 0
  | x :: r => c (x.2.1, x.2.2) + rsum c r
theorem csum_app (c : Wd × Int → Int) : ∀ (a b : List (Wd × Int)), csum c (a ++ b) = csum c a + csum c b
  | [], b => by simp [csum]
  | p :: a, b => by
    show c p + csum c (a ++ b) = c p + csum c a + csum c b
    rw [csum_app c a b]
    omega
theorem gsum_app (c : Wd × Int → Int) : ∀ (a b : List Grp), gsum c (a ++ b) = gsum c a + gsum c b
  | [], b => by simp [gsum]
  | p :: a, b => by
    show csum c p.2 + gsum c (a ++ b) = csum c p.2 + gsum c a + gsum c b
    rw [gsum_app c a b]
    omega
theorem gsum_rev (c : Wd × Int → Int) : ∀ (a : List Grp), gsum c a.reverse = gsum c a
  | [] => rfl
  | p :: a => by
    rw [List.reverse_cons, gsum_app, gsum_rev c a]
    show gsum c a + (csum c p.2 + 0) = csum c p.2 + gsum c a
    omega
/-- one turn of the grouping -/
def addG (y : Wd × Int) : List Grp → List Grp
  | [] => []
  | (b, ks) :: g => (b, ks ++ [y]) :: g
def openG (b : Int) (last : Option Int) (gs : List Grp) : List Grp := match last with
  | none => (b, []) :: gs
  | some e => if e < b then (b, []) :: gs else gs
def grpStep (x : Run) (last : Option Int) (gs : List Grp) : List Grp := addG (x.2.1, x.2.2) (openG x.1 last gs)
theorem groupsGo_cons {r : Rl} {x : Run} {xs : List Run} {last : Option Int} {gs : List Grp} : groupsGo r (x :: xs) last gs = groupsGo r xs (some (runEnd r x)) (grpStep x last gs) := by
  cases last <;> rfl
theorem addG_sum (c : Wd × Int → Int) {y : Wd × Int} : ∀ {gs : List Grp}, gs ≠ [] → gsum c (addG y gs) = gsum c gs + c y ∧ addG y gs ≠ []
  | [], h => absurd rfl h
  | (b, ks) :: g, _ => by
    refine ⟨?_, List.cons_ne_nil _ _⟩
    show csum c (ks ++ [y]) + gsum c g = csum c ks + gsum c g + _
    rw [csum_app]
    show csum c ks + (c y + 0) + _ = _
    omega
theorem openG_sum (c : Wd × Int → Int) {b : Int} {last : Option Int} {gs : List Grp} (h : last = none ∨ gs ≠ []) : gsum c (openG b last gs) = gsum c gs ∧ openG b last gs ≠ [] := by
  have key0 : gsum c ((b, []) :: gs) = gsum c gs := by
    show 0 + gsum c gs = _
    omega
  unfold openG
  cases last with
  | none => exact ⟨key0, List.cons_ne_nil _ _⟩
  | some e =>
    simp only
    split
    · exact ⟨key0, List.cons_ne_nil _ _⟩
    · rcases h with h | h
      · cases h
      · exact ⟨rfl, h⟩
theorem grpStep_sum (c : Wd × Int → Int) {x : Run} {last : Option Int} {gs : List Grp} (h : last = none ∨ gs ≠ []) : gsum c (grpStep x last gs) = gsum c gs + c (x.2.1, x.2.2) ∧ grpStep x last gs ≠ [] := by
  obtain ⟨h1, h2⟩ := openG_sum c (b := x.1) h
  obtain ⟨h3, h4⟩ := addG_sum c (y := (x.2.1, x.2.2)) h2
  exact ⟨h3.trans (by rw [h1]), h4⟩
theorem groupsGo_sum (c : Wd × Int → Int) {r : Rl} : ∀ {xs : List Run} {last : Option Int} {gs : List Grp}, (last = none ∨ gs ≠ []) → gsum c (groupsGo r xs last gs) = gsum c gs + rsum c xs
  | [], _, _, _ => by show _ = _ + (0 : Int); rw [Int.add_zero]; rfl
  | x :: xs, last, gs, h => by
    obtain ⟨h1, h2⟩ := grpStep_sum c (x := x) h
    rw [groupsGo_cons, groupsGo_sum c (xs := xs) (.inr h2), h1]
    show _ = gsum c gs + (c (x.2.1, x.2.2) + rsum c xs)
    omega
theorem grpStep_all {x : Run} {last : Option Int} {gs : List Grp} (h : ∀ g ∈ gs, ∀ y ∈ g.2, 1 ≤ y.2) (hx : 1 ≤ x.2.2) : ∀ g ∈ grpStep x last gs, ∀ y ∈ g.2, 1 ≤ y.2 := by
  have h2 : ∀ g ∈ ((x.1, []) :: gs : List Grp), ∀ y ∈ g.2, 1 ≤ y.2 := by
    intro g hg y hy
    rcases List.mem_cons.mp hg with rfl | hg
    · cases hy
    · exact h g hg y hy
  have h3 : ∀ g ∈ openG x.1 last gs, ∀ y ∈ g.2, 1 ≤ y.2 := by
    unfold openG
    cases last with
    | none => exact h2
    | some e =>
      simp only
      split
      · exact h2
      · exact h
  show ∀ g ∈ addG _ (openG x.1 last gs), _
  generalize openG x.1 last gs = gs1 at h3
  match gs1, h3 with
  | [], _ => exact fun g hg => by cases hg
  | (b, ks) :: gr, h1 =>
    intro g hg y hy
    rcases List.mem_cons.mp hg with rfl | hg
    · rcases List.mem_append.mp hy with hy | hy
      · exact h1 (b, ks) (List.mem_cons_self ..) y hy
      · rw [List.mem_singleton.mp hy]
        exact hx
    · exact h1 g (List.mem_cons_of_mem _ hg) y hy
theorem groupsGo_all {r : Rl} : ∀ {xs : List Run} {last : Option Int} {gs : List Grp}, (∀ g ∈ gs, ∀ y ∈ g.2, 1 ≤ y.2) → (∀ x ∈ xs, 1 ≤ x.2.2) → ∀ g ∈ groupsGo r xs last gs, ∀ y ∈ g.2, 1 ≤ y.2
  | [], _, _, h, _ => h
  | x :: xs, last, gs, h, hx => by
    rw [groupsGo_cons]
    exact groupsGo_all (xs := xs) (grpStep_all h (hx x (List.mem_cons_self ..))) fun y hy => hx y (List.mem_cons_of_mem _ hy)
def marksC (x : Wd × Int) : Int := x.1.ks.length * x.2
theorem tot_csum : ∀ ks, tot ks = csum marksC ks
  | [] => rfl
  | x :: r => by
    show _ + tot r = _ + csum marksC r
    rw [tot_csum r]
    rfl
/-- how many marks the runs have -/
def rtot (rs : List Run) : Int := rsum marksC rs
theorem gsum_mem : ∀ {gs : List Grp}, (∀ g ∈ gs, ∀ y ∈ g.2, 1 ≤ y.2) → ∀ g ∈ gs, tot g.2 ≤ gsum marksC gs ∧ 0 ≤ gsum marksC gs
  | [], _, _, hg => by cases hg
  | a :: gs, h, g, hg => by
    have h1 : 0 ≤ tot a.2 := tot_nn (h a (List.mem_cons_self ..))
    rw [tot_csum] at h1
    have h2 : ∀ g ∈ gs, ∀ y ∈ g.2, 1 ≤ y.2 := fun x hx => h x (List.mem_cons_of_mem _ hx)
    have h3 : 0 ≤ gsum marksC gs := by
      cases gs with
      | nil => exact Int.le_refl _
      | cons b r => exact (gsum_mem h2 b (List.mem_cons_self ..)).2
    show tot g.2 ≤ csum marksC a.2 + gsum marksC gs ∧ 0 ≤ csum marksC a.2 + gsum marksC gs
    rcases List.mem_cons.mp hg with rfl | hg
    · rw [tot_csum]
      omega
    · have := gsum_mem h2 g hg
      omega
theorem tidyGo_len : ∀ {n : Nat} {ps : List Part}, PI ps → (tidyGo n ps).length ≤ wt ps
  | 0, _, _ => Nat.zero_le _
  | n + 1, [], _ => Nat.zero_le _
  | n + 1, (k, m, alt) :: r, h => by
    have h1 := tidyStep_wt h
    have h2 := tidyGo_len (n := n) (tidyStep_ok h).1
    show ((tidyStep k m alt r).1 ++ tidyGo n (tidyStep k m alt r).2).length ≤ _
    rw [List.length_append]
    omega
theorem tidyKinds_len {ks : List (Wd × Int)} (h : ∀ x ∈ ks, 1 ≤ x.2) : (tidyKinds ks).length ≤ 8 * ks.length := by
  have h1 := putAll_len ks []
  have h2 := (putAll_ok (ps := []) trivial h).1
  have h3 := tidyGo_len (n := msum (putAll ks [])) h2.rev
  rw [wt_rev] at h3
  have h4 := wt_le (putAll ks [])
  rw [List.length_nil] at h1
  show (tidyGo (msum (putAll ks [])) (putAll ks []).reverse).length ≤ _
  omega
theorem layGo_len (r : Rl) : ∀ (at_ : Int) (ks : List (Wd × Int)), (layGo r at_ ks).length = ks.length
  | _, [] => rfl
  | at_, (w, t) :: ks => by
    show (layGo r _ ks).length + 1 = ks.length + 1
    rw [layGo_len r _ ks]
def oneC (_ : Wd × Int) : Int := 1
theorem csum_one : ∀ ks, csum oneC ks = ks.length
  | [] => rfl
  | x :: r => by
    show 1 + csum oneC r = ((r.length + 1 : Nat) : Int)
    rw [csum_one r]
    omega
theorem rsum_one : ∀ rs, rsum oneC rs = rs.length
  | [] => rfl
  | x :: r => by
    show 1 + rsum oneC r = ((r.length + 1 : Nat) : Int)
    rw [rsum_one r]
    omega
/-- how the groups are written out -/
def layAll (r : Rl) (gs : List Grp) : List Run := gs.flatMap fun g => layGo r g.1 (tidyKinds g.2)
theorem layAll_len (r : Rl) : ∀ {gs : List Grp}, (∀ g ∈ gs, ∀ y ∈ g.2, 1 ≤ y.2) → ((layAll r gs).length : Int) ≤ 8 * gsum oneC gs
  | [], _ => Int.le_refl _
  | g :: gs, h => by
    have h1 := layAll_len r (gs := gs) fun x hx => h x (List.mem_cons_of_mem _ hx)
    have h2 := tidyKinds_len (h g (List.mem_cons_self ..))
    show ((layGo r g.1 (tidyKinds g.2) ++ layAll r gs).length : Int) ≤ 8 * (csum oneC g.2 + gsum oneC gs)
    rw [List.length_append, layGo_len, csum_one]
    omega
theorem groups_ok {r : Rl} {rs : List Run} (h : ∀ x ∈ rs, 1 ≤ x.2.2) : (∀ g ∈ (groupsGo r rs none []).reverse, ∀ y ∈ g.2, 1 ≤ y.2) ∧ gsum marksC (groupsGo r rs none []).reverse = rtot rs ∧ gsum oneC (groupsGo r rs none []).reverse = rs.length := by
  refine ⟨fun g hg => groupsGo_all (fun _ hg => by cases hg) h g (List.mem_reverse.mp hg), ?_, ?_⟩
  · rw [gsum_rev, groupsGo_sum marksC (.inl rfl)]
    exact Int.zero_add _
  · rw [gsum_rev, groupsGo_sum oneC (.inl rfl), rsum_one]
    exact Int.zero_add _
theorem tidyRuns_eq (r : Rl) (rs : List Run) : tidyRuns r rs = layAll r (groupsGo r rs none []).reverse := rfl
theorem tidyRuns_len {r : Rl} {rs : List Run} (h : ∀ x ∈ rs, 1 ≤ x.2.2) : (tidyRuns r rs).length ≤ 8 * rs.length := by
  obtain ⟨h1, _, h3⟩ := groups_ok (r := r) h
  have := layAll_len r h1
  rw [h3, ← tidyRuns_eq] at this
  omega
theorem grp_tot {r : Rl} {rs : List Run} (h : ∀ x ∈ rs, 1 ≤ x.2.2) {g : Grp} (hg : g ∈ (groupsGo r rs none []).reverse) {y : Wd × Int} (hy : y ∈ tidyKinds g.2) : 1 ≤ y.2 ∧ y.2 ≤ rtot rs := by
  obtain ⟨h1, h2, _⟩ := groups_ok (r := r) h
  obtain ⟨h3, h4⟩ := tidyKinds_ok (h1 g hg)
  have h5 := tot_mem h4 y hy
  have h6 := (gsum_mem h1 g hg).1
  rw [h2] at h6
  exact ⟨h4 y hy, by omega⟩
end Sq
end
section
set_option Elab.async false
set_option linter.all false
set_option maxRecDepth 100000
set_option maxHeartbeats 4000000
/-! The machine in plain Lean: the clock comes to an end, sizes stay moderate. -/
namespace Sq
open PySem PyProof.Rows
theorem note_len (st : MSt) (t : Int) (x : Sw) : (st.note t x).log.length ≤ st.log.length + 1 := by
  unfold MSt.note
  show (if st.logged then _ else _ : List (Int × Sw)).length ≤ _
  split <;> simp
/-- what a turn of the clock wants of the state -/
structure TurnOk (t : Int) (st : MSt) : Prop where
  d : st.down.length ≤ 2
  r : st.runs.length + 2 < sizeLine
  l : st.log.length + 4 < sizeLine
  b : t - st.beg < 2 ^ 400
/-- the clock comes to an end within n turns -/
def AdvOk : Nat → Int → MSt → Prop
  | 0, _, st => st.kind = none
  | n + 1, t, st => st.kind = none ∨ ∃ k, st.kind = some k ∧ TurnOk t st ∧ ((st.turn t k).2 = true → AdvOk n t (st.turn t k).1)
structure StartF (st s' : MSt) (t : Int) (k : Kd) : Prop where
  k : s'.kind = some k
  b : s'.beg = t
  d : s'.down = st.down
  r : s'.runs.length = st.runs.length + 1
  l : s'.log.length ≤ st.log.length + 2
  rl : s'.rules = st.rules
  lg : s'.logged = st.logged
theorem start_f (st : MSt) (t : Int) (k : Kd) : StartF st (st.start t k) t k := by
  unfold MSt.start
  have h0 : StartF st (MSt.note { st with kind := some k, beg := t, other := false, own := false, heard := decide (st.rules.d = 0) && st.rules.canHear k, runs := st.runs ++ [(t, Wd.one k, 1)] } t (.begin k)) t k :=
    ⟨rfl, rfl, rfl, by show (st.runs ++ _).length = _; simp, Nat.le_succ_of_le (note_len _ _ _), rfl, rfl⟩
  simp only
  split
  · refine ⟨rfl, rfl, rfl, h0.r, ?_, rfl, rfl⟩
    refine Nat.le_trans (note_len _ _ _) ?_
    exact Nat.succ_le_succ (note_len { st with kind := some k, beg := t, other := false, own := false, heard := decide (st.rules.d = 0) && st.rules.canHear k, runs := st.runs ++ [(t, Wd.one k, 1)] } t (.begin k))
  · exact h0
/-- behind a decision -/
structure DecF (st s' : MSt) (t : Int) : Prop where
  k : s'.kind = none ∧ s'.beg = st.beg ∨ ∃ k, s'.kind = some k ∧ s'.beg = t
  d : s'.down = st.down
  r : s'.runs.length ≤ st.runs.length + 1
  l : s'.log.length ≤ st.log.length + 2
  rl : s'.rules = st.rules
  lg : s'.logged = st.logged
theorem dec_f (st : MSt) (t : Int) (k : Kd) : DecF st (st.decide t k) t := by
  unfold MSt.decide
  cases outcome st.rules k st.down st.other st.own with
  | none => exact ⟨.inl ⟨rfl, rfl⟩, rfl, Nat.le_succ _, Nat.le_succ_of_le (note_len _ _ _), rfl, rfl⟩
  | some k' =>
    have h := start_f st t k'
    exact ⟨.inr ⟨k', h.k, h.b⟩, h.d, Nat.le_of_eq h.r, h.l, h.rl, h.lg⟩
/-- the end of a turn -/
def decJump (t : Int) (s2 : MSt) : MSt := match s2.kind with
  | none => s2
  | some k' => s2.jump t k'
theorem advGo_stop {m : Nat} {t : Int} {st s1 : MSt} {k : Kd} (hk : st.kind = some k) (h : st.turn t k = (s1, false)) : advGo (m + 1) t st = s1 := by
  unfold advGo
  rw [hk]
  simp only
  rw [h]
theorem advGo_go {m : Nat} {t : Int} {st s1 : MSt} {k : Kd} (hk : st.kind = some k) (h : st.turn t k = (s1, true)) : advGo (m + 1) t st = advGo m t s1 := by
  rw [advGo, hk]
  simp only
  rw [h]
theorem turn_wait {t : Int} {st : MSt} {k : Kd} (h1 : (st.rules.canHear k && !st.heard) = true) (h2 : t < st.beg + st.rules.d) : st.turn t k = (st, false) := by
  unfold MSt.turn
  rw [h1, decide_eq_true h2]
  rfl
/-- the state behind the hearing -/
def heardSt (st : MSt) (k : Kd) : MSt := if st.rules.canHear k && !st.heard then st.hear (st.beg + st.rules.d) k else st
theorem turn_stop {t : Int} {st : MSt} {k : Kd} (h1 : (st.rules.canHear k && !st.heard && decide (t < st.beg + st.rules.d)) = false) (h2 : t < (heardSt st k).beg + (heardSt st k).rules.per k) : st.turn t k = (heardSt st k, false) := by
  unfold MSt.turn
  rw [h1, if_neg Bool.false_ne_true]
  exact if_pos h2
theorem turn_go {t : Int} {st : MSt} {k : Kd} (h1 : (st.rules.canHear k && !st.heard && decide (t < st.beg + st.rules.d)) = false) (h2 : ¬ t < (heardSt st k).beg + (heardSt st k).rules.per k) : st.turn t k = (decJump t ((heardSt st k).decide ((heardSt st k).beg + (heardSt st k).rules.per k) k), true) := by
  unfold MSt.turn
  rw [h1, if_neg Bool.false_ne_true]
  refine (if_neg h2).trans ?_
  have key : ∀ s2 : MSt, (match s2.kind with | none => (s2, true) | some k' => (s2.jump t k', true) : MSt × Bool) = (decJump t s2, true) := fun s2 => by
    unfold decJump
    cases s2.kind <;> rfl
  exact key _
structure HearF (st s' : MSt) : Prop where
  k : s'.kind = st.kind
  b : s'.beg = st.beg
  d : s'.down = st.down
  r : s'.runs = st.runs
  l : s'.log.length ≤ st.log.length + 2
  rl : s'.rules = st.rules
  lg : s'.logged = st.logged
theorem hear_f (st : MSt) (t : Int) (k : Kd) : HearF st (st.hear t k) := by
  unfold MSt.hear
  simp only
  split
  · exact ⟨rfl, rfl, rfl, rfl, Nat.le_trans (note_len _ _ _) (Nat.succ_le_succ (note_len { st with heard := true } t .hear)), rfl, rfl⟩
  · exact ⟨rfl, rfl, rfl, rfl, Nat.le_succ_of_le (note_len { st with heard := true } t .hear), rfl, rfl⟩
/-- the clock until the keyer is idle, n turns -/
def FinOk : Nat → MSt → Prop
  | 0, st => st.kind = none
  | n + 1, st => st.kind = none ∨ ∃ k m, st.kind = some k ∧ AdvOk m (st.beg + st.rules.per k) st ∧ FinOk n (advGo m (st.beg + st.rules.per k) st)
/-- what comes of it -/
inductive FinR : Nat → MSt → MSt → Prop
  | done {n : Nat} {st : MSt} : st.kind = none → FinR n st st
  | go {n m : Nat} {st st' : MSt} {k : Kd} : st.kind = some k → AdvOk m (st.beg + st.rules.per k) st → FinR n (advGo m (st.beg + st.rules.per k) st) st' → FinR (n + 1) st st'
def DownOk (d : List Kd) : Prop := d = [] ∨ d = [.s] ∨ d = [.l] ∨ d = [.l, .s]
theorem DownOk.len {d : List Kd} (h : DownOk d) : d.length ≤ 2 := by
  rcases h with rfl | rfl | rfl | rfl <;> decide
def pressDown (k : Kd) (d : List Kd) : List Kd := if k = Kd.s then d ++ [k] else k :: d
def hapEnd (s2 : MSt) (t : Int) (k : Kd) : MSt := match s2.kind with
  | none => s2.start t k
  | some k' =>
    if s2.heard && Decidable.decide (k = k') && s2.rules.ag && !s2.own then ({ s2 with own := true }).note t (.remember k)
    else if s2.heard && Decidable.decide (k ≠ k') && Decidable.decide (s2.rules.rem ≠ .no) && !s2.other then s2.noteOther t k'
    else s2
/-- runs whose numbers are of a moderate size -/
structure RunsOk (rs : List Run) : Prop where
  t1 : ∀ x ∈ rs, 1 ≤ x.2.2
  tot : rtot rs < 2 ^ 400
  len : rs.length ≤ 100000
  bg : ∀ x ∈ rs, x.1.natAbs < 2 ^ 400
end Sq
end
section
set_option Elab.async false
set_option linter.all false
set_option maxRecDepth 100000
set_option maxHeartbeats 4000000
/-! The clock of a machine without a log comes to an end within four turns. -/
namespace Sq
open PySem PyProof.Rows
theorem advGo_none {n : Nat} {t : Int} {st : MSt} (h : st.kind = none) : advGo n t st = st := by
  cases n with
  | zero => rfl
  | succ n => unfold advGo; rw [h]
theorem advGo_mono : ∀ {n m : Nat} {t : Int} {st : MSt}, AdvOk n t st → n ≤ m → AdvOk m t st ∧ advGo m t st = advGo n t st
  | 0, m, t, st, h, _ => by
    have hk : st.kind = none := h
    refine ⟨?_, by rw [advGo_none hk, advGo_none hk]⟩
    cases m with
    | zero => exact hk
    | succ m => exact .inl hk
  | n + 1, 0, _, _, _, hl => absurd hl (by omega)
  | n + 1, m + 1, t, st, h, hl => by
    rcases h with hk | ⟨k, hk, tok, hr⟩
    · exact ⟨.inl hk, by rw [advGo_none hk, advGo_none hk]⟩
    · cases e : st.turn t k with
      | mk s1 b =>
        cases b with
        | false =>
          rw [advGo_stop hk e, advGo_stop hk e]
          exact ⟨.inr ⟨k, hk, tok, fun z => by rw [e] at z; cases z⟩, rfl⟩
        | true =>
          rw [e] at hr
          obtain ⟨h1, h2⟩ := advGo_mono (m := m) (hr rfl) (by omega)
          rw [advGo_go hk e, advGo_go hk e]
          exact ⟨.inr ⟨k, hk, tok, fun _ => by rw [e]; exact h1⟩, h2⟩
theorem heardSt_f (st : MSt) (k : Kd) : HearF st (heardSt st k) := by
  unfold heardSt
  split
  · exact hear_f _ _ _
  · exact ⟨rfl, rfl, rfl, rfl, by omega, rfl, rfl⟩
/-- the ways of a turn -/
theorem turn_ways (t : Int) (st : MSt) (k : Kd) :
    (st.turn t k).2 = false ∧ ((st.turn t k).1 = st ∨ (st.turn t k).1 = heardSt st k ∧ t < st.beg + st.rules.per k ∧ (st.rules.canHear k && !st.heard && decide (t < st.beg + st.rules.d)) = false) ∨
    st.turn t k = (decJump t ((heardSt st k).decide (st.beg + st.rules.per k) k), true) ∧ st.beg + st.rules.per k ≤ t ∧ (st.rules.canHear k && !st.heard && decide (t < st.beg + st.rules.d)) = false := by
  have f := heardSt_f st k
  by_cases h1 : (st.rules.canHear k && !st.heard && decide (t < st.beg + st.rules.d)) = true
  · left
    rw [Bool.and_eq_true] at h1
    rw [turn_wait h1.1 (of_decide_eq_true h1.2)]
    exact ⟨rfl, .inl rfl⟩
  · rw [Bool.not_eq_true] at h1
    by_cases h2 : t < (heardSt st k).beg + (heardSt st k).rules.per k
    · left
      rw [turn_stop h1 h2]
      rw [f.b, f.rl] at h2
      exact ⟨rfl, .inr ⟨rfl, h2, h1⟩⟩
    · right
      have e := turn_go h1 h2
      rw [f.b, f.rl] at h2
      rw [e, f.b, f.rl]
      exact ⟨rfl, by omega, h1⟩
/-- a mark that has just begun -/
structure Fresh (s : MSt) (k : Kd) : Prop where
  kd : s.kind = some k
  ow : s.own = false
  he : s.heard = (decide (s.rules.d = 0) && s.rules.canHear k)
  ot : s.other = (s.heard && s.heldOther k)
theorem start_fresh (st : MSt) (t : Int) (k : Kd) : Fresh (st.start t k) k := by
  unfold MSt.start
  simp only
  split
  · rename_i h
    rw [Bool.and_eq_true] at h
    refine ⟨rfl, rfl, rfl, ?_⟩
    show true = ((decide (st.rules.d = 0) && st.rules.canHear k) && st.heldOther k)
    rw [h.1, h.2]
    rfl
  · rename_i h
    refine ⟨rfl, rfl, rfl, ?_⟩
    show false = ((decide (st.rules.d = 0) && st.rules.canHear k) && st.heldOther k)
    exact (Bool.not_eq_true _ ▸ h).symm
theorem Fresh.skip {s : MSt} {k : Kd} {w : Wd} {t : Int} (h : Fresh s k) : Fresh (s.skip w t k) k := ⟨h.kd, h.ow, h.he, h.ot⟩
theorem Fresh.jump {s : MSt} {k : Kd} {t : Int} (h : Fresh s k) : Fresh (s.jump t k) k := by
  unfold MSt.jump
  split
  · exact h
  · split
    · exact h
    · simp only
      split
      · exact h.skip
      · exact h
theorem Fresh.out {s : MSt} {k : Kd} (h : Fresh s k) : outcome (heardSt s k).rules k (heardSt s k).down (heardSt s k).other (heardSt s k).own = s.following k := by
  have f := heardSt_f s k
  rw [f.rl, f.d]
  have e : (heardSt s k).other = s.heldOther k ∧ (heardSt s k).own = false := by
    unfold heardSt
    split
    · rename_i h1
      rw [Bool.and_eq_true] at h1
      have h2 : s.heard = false := by cases e : s.heard <;> rw [e] at h1 <;> first | rfl | cases h1.2
      have h3 : s.other = false := by rw [h.ot, h2]; rfl
      unfold MSt.hear
      simp only
      split
      · rename_i h4
        rw [h4]
        exact ⟨rfl, h.ow⟩
      · rename_i h4
        rw [Bool.not_eq_true] at h4
        rw [h4]
        exact ⟨h3, h.ow⟩
    · rename_i h1
      refine ⟨?_, h.ow⟩
      rw [h.ot]
      cases e1 : s.heard with
      | true => rw [Bool.true_and]
      | false =>
        rw [e1] at h1
        have h2 : s.rules.canHear k = false := by cases e : s.rules.canHear k <;> rw [e] at h1 <;> first | rfl | exact absurd rfl h1
        unfold MSt.heldOther
        rw [h2, Bool.and_false, Bool.false_and, Bool.false_and]
  rw [e.1, e.2]
  rfl
/-- what a state keeps -/
structure Kept (s s' : MSt) : Prop where
  d : s'.down = s.down
  rl : s'.rules = s.rules
  lg : s'.logged = s.logged
theorem Kept.refl (s : MSt) : Kept s s := ⟨rfl, rfl, rfl⟩
theorem Kept.trans {a b c : MSt} (h : Kept a b) (g : Kept b c) : Kept a c := ⟨g.d.trans h.d, g.rl.trans h.rl, g.lg.trans h.lg⟩
theorem Kept.held {a b : MSt} (h : Kept a b) (k : Kd) : b.heldOther k = a.heldOther k := by
  unfold MSt.heldOther
  rw [h.d, h.rl]
theorem Kept.fol {a b : MSt} (h : Kept a b) (k : Kd) : b.following k = a.following k := by
  unfold MSt.following
  rw [h.held, h.d, h.rl]
theorem Kept.word {a b : MSt} (h : Kept a b) (k : Kd) : b.word k = a.word k := by
  unfold MSt.word
  rw [h.fol]
  cases a.following k with
  | none => rfl
  | some k' =>
    simp only
    rw [h.fol]
theorem jump_kept (s : MSt) (t : Int) (k : Kd) : Kept s (s.jump t k) := by
  unfold MSt.jump
  split
  · exact .refl _
  · split
    · exact .refl _
    · simp only
      split
      · exact ⟨rfl, rfl, rfl⟩
      · exact .refl _
theorem decJump_kept (t : Int) (s : MSt) : Kept s (decJump t s) := by
  unfold decJump
  split
  · exact .refl _
  · exact jump_kept _ _ _
theorem hear_kept (s : MSt) (k : Kd) : Kept s (heardSt s k) := ⟨(heardSt_f s k).d, (heardSt_f s k).rl, (heardSt_f s k).lg⟩
theorem dec_kept (s : MSt) (t : Int) (k : Kd) : Kept s (s.decide t k) := ⟨(dec_f s t k).d, (dec_f s t k).rl, (dec_f s t k).lg⟩
theorem Wd.per_ge {r : Rl} (ok : r.Ok) (k : Kd) : 2 ≤ r.per k := by
  have h1 := ok.s1; have h2 := ok.l1; have h3 := ok.p1
  cases k
  · show 2 ≤ r.s + r.p
    omega
  · show 2 ≤ r.l + r.p
    omega
theorem per_one (r : Rl) (k : Kd) : (Wd.one k).per r = r.per k := by
  show r.per k + 0 = _
  omega
theorem per_two (r : Rl) (k : Kd) : (Wd.two k).per r = r.per k + r.per k.ot := by
  show r.per k + (r.per k.ot + 0) = _
  omega
theorem Wd.per_pos {r : Rl} (ok : r.Ok) (x : Wd) : 2 ≤ x.per r := by
  cases x with
  | one k => rw [per_one]; exact Wd.per_ge ok k
  | two k =>
    rw [per_two]
    have := Wd.per_ge ok k
    have := Wd.per_ge ok k.ot
    omega
/-- behind a jump the next begin of the word is behind the tick -/
structure JumpF (s s' : MSt) (t : Int) (k : Kd) : Prop where
  kd : s'.kind = s.kind
  b1 : s.beg ≤ s'.beg
  b2 : s'.beg ≤ s.beg ∨ s'.beg ≤ t
  r : ∃ e, s'.runs = s.runs ++ e ∧ e.length ≤ 1 ∧ (∀ x ∈ e, 1 ≤ x.2.2 ∧ s.beg ≤ x.1 ∧ x.1 ≤ s'.beg) ∧ rtot e ≤ s'.beg - s.beg
  l : s'.log = s.log
  j : s.logged = false → ∀ w, s.word k = some w → t - s'.beg < w.per s.rules
theorem rsum_app (c : Wd × Int → Int) : ∀ (a b : List Run), rsum c (a ++ b) = rsum c a + rsum c b
  | [], b => by
    show rsum c b = 0 + rsum c b
    omega
  | x :: a, b => by
    show c (x.2.1, x.2.2) + rsum c (a ++ b) = c (x.2.1, x.2.2) + rsum c a + rsum c b
    rw [rsum_app c a b]
    omega
theorem rtot_one (x : Run) : rtot [x] = x.2.1.ks.length * x.2.2 := by
  show marksC (x.2.1, x.2.2) + 0 = _
  rw [Int.add_zero]
  rfl
theorem len_per {r : Rl} (ok : r.Ok) (w : Wd) : (w.ks.length : Int) ≤ w.per r := by
  cases w with
  | one k =>
    rw [per_one]
    have := Wd.per_ge ok k
    show (1 : Int) ≤ _
    omega
  | two k =>
    have := Wd.per_pos ok (.two k)
    show (2 : Int) ≤ _
    omega
theorem word_per {s : MSt} (ok : s.rules.Ok) {k : Kd} {w : Wd} (h : s.word k = some w) : s.rules.per k ≤ w.per s.rules := by
  unfold MSt.word at h
  cases hf : s.following k with
  | none => rw [hf] at h; cases h
  | some k' =>
    rw [hf] at h
    simp only at h
    split at h
    · cases h
      rw [per_one]
      exact Int.le_refl _
    · rename_i hk
      split at h
      · cases h
        rw [per_two]
        have e : k'.ot = k := by cases k' <;> cases k <;> first | rfl | exact absurd rfl hk
        rw [e]
        have := Wd.per_ge ok k'
        omega
      · cases h
theorem jump_f {s : MSt} (ok : s.rules.Ok) (t : Int) (k : Kd) : JumpF s (s.jump t k) t k := by
  have r0 : ∃ e, s.runs = s.runs ++ e ∧ e.length ≤ 1 ∧ (∀ x ∈ e, 1 ≤ x.2.2 ∧ s.beg ≤ x.1 ∧ x.1 ≤ s.beg) ∧ rtot e ≤ s.beg - s.beg := ⟨[], by simp, by simp, by simp, by show (0 : Int) ≤ _; omega⟩
  unfold MSt.jump
  split
  · rename_i hw
    exact ⟨rfl, Int.le_refl _, .inl (Int.le_refl _), r0, rfl, fun _ w h => by rw [hw] at h; cases h⟩
  · rename_i w hw
    split
    · rename_i hl
      exact ⟨rfl, Int.le_refl _, .inl (Int.le_refl _), r0, rfl, fun h => by rw [hl] at h; cases h⟩
    · simp only
      have hp := Wd.per_pos ok w
      have hd := Int.mul_ediv_add_emod (t - s.beg) (w.per s.rules)
      have hm1 := Int.emod_nonneg (t - s.beg) (b := w.per s.rules) (by omega)
      have hm2 := Int.emod_lt_of_pos (t - s.beg) (b := w.per s.rules) (by omega)
      split
      · rename_i h0
        generalize hq : (t - s.beg) / w.per s.rules = q at *
        have h4 : 0 ≤ w.per s.rules * q := Int.mul_nonneg (by omega) (by omega)
        have eb : (s.skip w q k).beg = s.beg + w.per s.rules * q := rfl
        refine ⟨rfl, by rw [eb]; omega, .inr (by rw [eb]; omega), ⟨[(s.beg + s.rules.per k, w, q)], rfl, by simp, ?_, ?_⟩, rfl, ?_⟩
        · intro x hx
          obtain rfl := List.mem_singleton.mp hx
          have h5 := Wd.per_ge ok k
          have h6 := word_per ok hw
          have h7 : w.per s.rules * 1 ≤ w.per s.rules * q := Int.mul_le_mul_of_nonneg_left (by omega) (by omega)
          show 1 ≤ q ∧ s.beg ≤ s.beg + s.rules.per k ∧ s.beg + s.rules.per k ≤ s.beg + w.per s.rules * q
          omega
        · rw [rtot_one, eb]
          show (w.ks.length : Int) * q ≤ _
          have := Int.mul_le_mul_of_nonneg_right (len_per ok w) (show 0 ≤ q by omega)
          omega
        · intro _ w' h
          rw [hw] at h
          cases h
          rw [eb]
          omega
      · rename_i h0
        refine ⟨rfl, Int.le_refl _, .inl (Int.le_refl _), r0, rfl, fun _ w' h => ?_⟩
        rw [hw] at h
        cases h
        have h4 : w.per s.rules * ((t - s.beg) / w.per s.rules) ≤ 0 := Int.mul_nonpos_of_nonneg_of_nonpos (by omega) (by omega)
        omega
/-- one turn that goes on -/
structure GoF (s s' : MSt) (t : Int) : Prop where
  kp : Kept s s'
  b1 : s.beg ≤ s'.beg
  b2 : s'.beg ≤ s.beg ∨ s'.beg ≤ t
  r : ∃ e, s'.runs = s.runs ++ e ∧ e.length ≤ 2 ∧ (∀ x ∈ e, 1 ≤ x.2.2 ∧ s.beg ≤ x.1 ∧ x.1 ≤ s'.beg) ∧ rtot e ≤ s'.beg - s.beg
  l : s'.log.length ≤ s.log.length + 4
theorem start_runs (st : MSt) (t : Int) (k : Kd) : (st.start t k).runs = st.runs ++ [(t, Wd.one k, 1)] := by
  unfold MSt.start
  simp only
  split
  · rfl
  · rfl
theorem go_f {s : MSt} (ok : s.rules.Ok) {t : Int} {k : Kd} (ht : s.beg + s.rules.per k ≤ t) : GoF s (decJump t ((heardSt s k).decide (s.beg + s.rules.per k) k)) t := by
  have hp := Wd.per_ge ok k
  have fh := heardSt_f s k
  have fd := dec_f (heardSt s k) (s.beg + s.rules.per k) k
  have kp : Kept s ((heardSt s k).decide (s.beg + s.rules.per k) k) := (hear_kept s k).trans (dec_kept _ _ _)
  have e1 : ∀ s2 : MSt, s2 = (heardSt s k).decide (s.beg + s.rules.per k) k → (s2.kind = none ∧ s2.runs = s.runs ∧ s2.beg = s.beg) ∨ (∃ k', s2.kind = some k' ∧ s2.runs = s.runs ++ [(s.beg + s.rules.per k, Wd.one k', 1)] ∧ s2.beg = s.beg + s.rules.per k) := by
    intro s2 hs2
    unfold MSt.decide at hs2
    cases ho : outcome (heardSt s k).rules k (heardSt s k).down (heardSt s k).other (heardSt s k).own with
    | none =>
      rw [ho] at hs2
      subst hs2
      exact .inl ⟨rfl, fh.r, fh.b⟩
    | some k' =>
      rw [ho] at hs2
      subst hs2
      have f := start_f (heardSt s k) (s.beg + s.rules.per k) k'
      exact .inr ⟨k', f.k, by rw [start_runs, fh.r], f.b⟩
  have hl := fd.l
  have hl2 := fh.l
  generalize (heardSt s k).decide (s.beg + s.rules.per k) k = s2 at *
  rcases e1 s2 rfl with ⟨h1, h2, h3⟩ | ⟨k', h1, h2, h3⟩
  · have e : decJump t s2 = s2 := by unfold decJump; rw [h1]
    rw [e]
    exact ⟨kp, by rw [h3]; omega, .inl (by rw [h3]; omega), ⟨[], by rw [h2]; simp, by simp, by simp, by rw [h3]; show (0 : Int) ≤ _; omega⟩, by omega⟩
  · have e : decJump t s2 = s2.jump t k' := by unfold decJump; rw [h1]
    rw [e]
    have j := jump_f (s := s2) (by rw [kp.rl]; exact ok) t k'
    obtain ⟨e3, r1, r2, r3, r4⟩ := j.r
    refine ⟨kp.trans (jump_kept _ _ _), ?_, ?_, ⟨(s.beg + s.rules.per k, Wd.one k', 1) :: e3, ?_, ?_, ?_, ?_⟩, ?_⟩
    · have := j.b1
      omega
    · have := j.b2
      omega
    · rw [r1, h2, List.append_assoc]
      rfl
    · rw [List.length_cons]
      omega
    · intro x hx
      have j1 := j.b1
      rcases List.mem_cons.mp hx with rfl | hx
      · show (1 : Int) ≤ 1 ∧ s.beg ≤ s.beg + s.rules.per k ∧ s.beg + s.rules.per k ≤ _
        omega
      · have := r3 x hx
        omega
    · show ((Wd.one k').ks.length : Int) * 1 + rtot e3 ≤ _
      show (1 : Int) * 1 + rtot e3 ≤ _
      have := j.b1
      omega
    · rw [j.l]
      omega
/-- the state behind a decision -/
theorem go_ways {s : MSt} {t : Int} {k : Kd} : (decJump t ((heardSt s k).decide (s.beg + s.rules.per k) k)).kind = none ∧ outcome (heardSt s k).rules k (heardSt s k).down (heardSt s k).other (heardSt s k).own = none ∨
    ∃ k' s2, outcome (heardSt s k).rules k (heardSt s k).down (heardSt s k).other (heardSt s k).own = some k' ∧ Fresh s2 k' ∧ Kept s s2 ∧ s2.beg = s.beg + s.rules.per k ∧ decJump t ((heardSt s k).decide (s.beg + s.rules.per k) k) = s2.jump t k' := by
  unfold MSt.decide
  cases ho : outcome (heardSt s k).rules k (heardSt s k).down (heardSt s k).other (heardSt s k).own with
  | none => exact .inl ⟨rfl, rfl⟩
  | some k' =>
    refine .inr ⟨k', (heardSt s k).start (s.beg + s.rules.per k) k', rfl, start_fresh _ _ _, ?_, (start_f _ _ _).b, ?_⟩
    · have f := start_f (heardSt s k) (s.beg + s.rules.per k) k'
      exact (hear_kept s k).trans ⟨f.d, f.rl, f.lg⟩
    · have f := start_f (heardSt s k) (s.beg + s.rules.per k) k'
      show decJump t ((heardSt s k).start (s.beg + s.rules.per k) k') = _
      unfold decJump
      rw [f.k]
/-- room for turns -/
structure Rm2 (n : Nat) (t : Int) (s : MSt) : Prop where
  ok : s.rules.Ok
  lg : s.logged = false
  d : s.down.length ≤ 2
  r : s.runs.length + 2 * n < sizeLine
  l : s.log.length + 4 * n < sizeLine
  b : t - s.beg < 2 ^ 400
theorem Rm2.tok {n : Nat} {t : Int} {s : MSt} (h : Rm2 (n + 1) t s) : TurnOk t s := ⟨h.d, by have := h.r; omega, by have := h.l; omega, h.b⟩
theorem Rm2.go {n : Nat} {t : Int} {s s' : MSt} (h : Rm2 (n + 1) t s) (g : GoF s s' t) : Rm2 n t s' := by
  obtain ⟨e, h1, h2, _⟩ := g.r
  refine ⟨by rw [g.kp.rl]; exact h.ok, by rw [g.kp.lg]; exact h.lg, by rw [g.kp.d]; exact h.d, ?_, ?_, ?_⟩
  · rw [h1, List.length_append]
    have := h.r
    omega
  · have := g.l
    have := h.l
    omega
  · have := g.b1
    have := h.b
    omega
theorem ot_of {a b : Kd} (h : a ≠ b) : a = b.ot := by
  cases a <;> cases b <;> first | rfl | exact absurd rfl h
/-- a turn, given its ways -/
theorem adv_step {n : Nat} {t : Int} {s : MSt} {k : Kd} (h : Rm2 (n + 1) t s) (hk : s.kind = some k) (hn : ∀ s', s' = decJump t ((heardSt s k).decide (s.beg + s.rules.per k) k) → s.beg + s.rules.per k ≤ t → Rm2 n t s' → AdvOk n t s') : AdvOk (n + 1) t s := by
  refine .inr ⟨k, hk, h.tok, fun z => ?_⟩
  rcases turn_ways t s k with ⟨w, _⟩ | ⟨w, ht, _⟩
  · rw [w] at z
    cases z
  · rw [w]
    exact hn _ rfl ht (h.go (go_f h.ok ht))
theorem adv_fresh {t : Int} {s : MSt} {k : Kd} (h : Rm2 3 t s) (f : Fresh s k) (hj : ∀ w, s.word k = some w → t - s.beg < w.per s.rules) : AdvOk 3 t s := by
  refine adv_step h f.kd fun s' es ht h' => ?_
  rcases go_ways (s := s) (t := t) (k := k) with ⟨e, _⟩ | ⟨k', s2, ho, f2, kp, hb, e⟩
  · rw [← es] at e
    exact .inl e
  · rw [← es] at e
    rw [f.out] at ho
    have ok2 : s2.rules.Ok := by rw [kp.rl]; exact h.ok
    have j := jump_f ok2 t k'
    have lg2 : s2.logged = false := by rw [kp.lg]; exact h.lg
    have f3 : Fresh s' k' := by rw [e]; exact f2.jump
    have kp3 : Kept s s' := by rw [e]; exact kp.trans (jump_kept _ _ _)
    have hb3 : s2.beg ≤ s'.beg := by rw [e]; exact j.b1
    by_cases hkk : k' = k
    · subst hkk
      have hw : s.word k' = some (.one k') := by unfold MSt.word; rw [ho]; simp
      have := hj _ hw
      rw [per_one] at this
      omega
    · have ek : k' = k.ot := ot_of hkk
      refine adv_step h' f3.kd fun s4 es4 ht4 h4 => ?_
      rw [kp3.rl] at ht4
      cases hf : s.following k' with
      | none =>
        rcases go_ways (s := s') (t := t) (k := k') with ⟨e4, _⟩ | ⟨k4, s5, ho4, _⟩
        · rw [← es4] at e4
          exact .inl e4
        · rw [f3.out, kp3.fol, hf] at ho4
          cases ho4
      | some k4 =>
        exfalso
        by_cases h5 : k4 = k
        · subst h5
          have hw : s.word k4 = some (.two k') := by unfold MSt.word; rw [ho]; simp [hkk, hf]
          have := hj _ hw
          rw [per_two] at this
          have e6 : k'.ot = k4 := by rw [ek]; cases k4 <;> rfl
          rw [e6] at this
          omega
        · have e6 : k4 = k' := by rw [ek]; exact ot_of h5
          subst e6
          have hw : s2.word k4 = some (.one k4) := by rw [kp.word]; unfold MSt.word; rw [hf]; simp
          have := j.j lg2 _ hw
          rw [per_one, kp.rl, ← e] at this
          omega
theorem adv_four {t : Int} {s : MSt} (h : Rm2 4 t s) : AdvOk 4 t s := by
  cases hk : s.kind with
  | none => exact .inl hk
  | some k =>
    refine adv_step h hk fun s' es ht h' => ?_
    rcases go_ways (s := s) (t := t) (k := k) with ⟨e, _⟩ | ⟨k', s2, ho, f2, kp, hb, e⟩
    · rw [← es] at e
      exact .inl e
    · rw [← es] at e
      have ok2 : s2.rules.Ok := by rw [kp.rl]; exact h.ok
      have j := jump_f ok2 t k'
      have lg2 : s2.logged = false := by rw [kp.lg]; exact h.lg
      have kp3 : Kept s s' := by rw [e]; exact kp.trans (jump_kept _ _ _)
      refine adv_fresh h' (by rw [e]; exact f2.jump) fun w hw => ?_
      rw [kp3.word, ← kp.word] at hw
      have := j.j lg2 w hw
      rw [← e, kp.rl] at this
      rw [kp3.rl]
      exact this
/-! ### what the clock keeps -/
structure AdvF (n : Nat) (s s' : MSt) (t : Int) : Prop where
  kp : Kept s s'
  b1 : s.beg ≤ s'.beg
  b2 : s'.beg ≤ s.beg ∨ s'.beg ≤ t
  r : ∃ e, s'.runs = s.runs ++ e ∧ e.length ≤ 2 * n ∧ (∀ x ∈ e, 1 ≤ x.2.2 ∧ s.beg ≤ x.1 ∧ x.1 ≤ s'.beg) ∧ rtot e ≤ s'.beg - s.beg
  l : s.logged = false → s.log = [] → s'.log = []
theorem note_nolog {s : MSt} (h : s.logged = false) (t : Int) (x : Sw) : (s.note t x).log = s.log := by
  unfold MSt.note
  show (if s.logged then _ else _ : List (Int × Sw)) = _
  rw [h]
  rfl
theorem hear_nolog {s : MSt} (h : s.logged = false) (k : Kd) : (heardSt s k).log = s.log := by
  unfold heardSt MSt.hear MSt.noteOther MSt.note
  simp only [h, Bool.false_eq_true, if_false]
  repeat' split
  all_goals rfl
theorem start_nolog {s : MSt} (h : s.logged = false) (t : Int) (k : Kd) : (s.start t k).log = s.log := by
  unfold MSt.start MSt.noteOther MSt.note
  simp only [h, Bool.false_eq_true, if_false]
  repeat' split
  all_goals rfl
theorem dec_nolog {s : MSt} (h : s.logged = false) (t : Int) (k : Kd) : (s.decide t k).log = s.log := by
  unfold MSt.decide
  split
  · unfold MSt.note
    simp only [h, Bool.false_eq_true, if_false]
  · exact start_nolog h _ _
theorem decJump_log (t : Int) (s : MSt) : (decJump t s).log = s.log := by
  unfold decJump
  split
  · rfl
  · unfold MSt.jump
    split
    · rfl
    · split
      · rfl
      · simp only
        split <;> rfl
theorem adv_f : ∀ {n : Nat} {t : Int} {s : MSt}, s.rules.Ok → AdvF n s (advGo n t s) t
  | 0, t, s, ok => ⟨.refl _, Int.le_refl _, .inl (Int.le_refl _), ⟨[], by simp [advGo], by simp, by simp, by show (0 : Int) ≤ s.beg - s.beg; omega⟩, fun _ h => h⟩
  | n + 1, t, s, ok => by
    cases hk : s.kind with
    | none =>
      rw [advGo_none hk]
      exact ⟨.refl _, Int.le_refl _, .inl (Int.le_refl _), ⟨[], by simp, by simp, by simp, by show (0 : Int) ≤ s.beg - s.beg; omega⟩, fun _ h => h⟩
    | some k =>
      rcases turn_ways t s k with ⟨w, w2⟩ | ⟨w, ht, _⟩
      · have e : advGo (n + 1) t s = (s.turn t k).1 := advGo_stop hk (by rw [← w])
        rw [e]
        rcases w2 with w2 | ⟨w2, _⟩
        · rw [w2]
          exact ⟨.refl _, Int.le_refl _, .inl (Int.le_refl _), ⟨[], by simp, by simp, by simp, by show (0 : Int) ≤ s.beg - s.beg; omega⟩, fun _ h => h⟩
        · rw [w2]
          have f := heardSt_f s k
          exact ⟨hear_kept s k, by rw [f.b]; exact Int.le_refl _, .inl (by rw [f.b]; exact Int.le_refl _), ⟨[], by rw [f.r]; simp, by simp, by simp, by rw [f.b]; show (0 : Int) ≤ s.beg - s.beg; omega⟩, fun h1 h2 => by rw [hear_nolog h1]; exact h2⟩
      · rw [advGo_go hk w]
        have g := go_f ok ht
        have hlog : s.logged = false → s.log = [] → (decJump t ((heardSt s k).decide (s.beg + s.rules.per k) k)).log = [] := fun h1 h2 => by
          rw [decJump_log, dec_nolog (by rw [(hear_kept s k).lg]; exact h1), hear_nolog h1]
          exact h2
        generalize decJump t ((heardSt s k).decide (s.beg + s.rules.per k) k) = s2 at *
        have ih := adv_f (n := n) (t := t) (s := s2) (by rw [g.kp.rl]; exact ok)
        obtain ⟨e1, a1, a2, a3, a4⟩ := g.r
        obtain ⟨e2, c1, c2, c3, c4⟩ := ih.r
        refine ⟨g.kp.trans ih.kp, Int.le_trans g.b1 ih.b1, ?_, ⟨e1 ++ e2, ?_, ?_, ?_, ?_⟩, fun h1 h2 => ih.l (by rw [g.kp.lg]; exact h1) (hlog h1 h2)⟩
        · have := g.b2
          have := ih.b2
          omega
        · rw [c1, a1, List.append_assoc]
        · rw [List.length_append]
          omega
        · intro x hx
          have g1 := g.b1
          have g2 := ih.b1
          rcases List.mem_append.mp hx with hx | hx
          · have := a3 x hx
            omega
          · have := c3 x hx
            omega
        · show rsum marksC (e1 ++ e2) ≤ _
          rw [rsum_app]
          show rtot e1 + rtot e2 ≤ _
          omega
end Sq
end
section
set_option Elab.async false
set_option linter.all false
set_option maxRecDepth 100000
set_option maxHeartbeats 4000000
set_option exponentiation.threshold 500
/-! States of a moderate size, and what is done with them. -/
namespace Sq
open PySem PyProof.Rows
theorem adv_ok {t : Int} {s : MSt} (h : Rm2 4 t s) : AdvOk 2000 t s ∧ AdvF 4 s (s.adv t) t := by
  obtain ⟨h1, h2⟩ := advGo_mono (adv_four h) (show 4 ≤ 2000 by decide)
  refine ⟨h1, ?_⟩
  unfold MSt.adv
  rw [h2]
  exact adv_f h.ok
/-! ### happen -/
structure HapF (s s' : MSt) (t : Int) (k : Kd) (dn : Bool) : Prop where
  rl : s'.rules = s.rules
  lg : s'.logged = s.logged
  d : s'.down = if dn then pressDown k s.down else s.down.filter fun o => decide (o ≠ k)
  r : ∃ e, s'.runs = s.runs ++ e ∧ (e = [] ∧ s'.beg = s.beg ∧ s'.kind = s.kind ∨ e = [(t, Wd.one k, 1)] ∧ s'.beg = t ∧ s'.kind = some k)
  l : s.logged = false → s.log = [] → s'.log = []
theorem happen_true (s : MSt) (t : Int) (k : Kd) : s.happen t k true = hapEnd ({ s.note t (.press k) with down := pressDown k s.down }) t k := rfl
theorem happen_false (s : MSt) (t : Int) (k : Kd) : s.happen t k false = { s.note t (.release k) with down := s.down.filter fun o => decide (o ≠ k) } := rfl
theorem hap_f (s : MSt) (t : Int) (k : Kd) (dn : Bool) : HapF s (s.happen t k dn) t k dn := by
  cases dn with
  | false =>
    rw [happen_false]
    exact ⟨rfl, rfl, rfl, ⟨[], by simp [MSt.note], .inl ⟨rfl, rfl, rfl⟩⟩, fun h1 h2 => by show (s.note t _).log = []; rw [note_nolog h1]; exact h2⟩
  | true =>
    rw [happen_true]
    have h0 : s.logged = false → s.log = [] → (s.note t (.press k)).log = [] := fun h1 h2 => by rw [note_nolog h1]; exact h2
    have hs : ({ s.note t (.press k) with down := pressDown k s.down } : MSt).runs = s.runs ∧ ({ s.note t (.press k) with down := pressDown k s.down } : MSt).beg = s.beg ∧ ({ s.note t (.press k) with down := pressDown k s.down } : MSt).kind = s.kind ∧ ({ s.note t (.press k) with down := pressDown k s.down } : MSt).rules = s.rules ∧ ({ s.note t (.press k) with down := pressDown k s.down } : MSt).logged = s.logged ∧ ({ s.note t (.press k) with down := pressDown k s.down } : MSt).down = pressDown k s.down ∧ ({ s.note t (.press k) with down := pressDown k s.down } : MSt).log = (s.note t (.press k)).log := ⟨rfl, rfl, rfl, rfl, rfl, rfl, rfl⟩
    generalize ({ s.note t (.press k) with down := pressDown k s.down } : MSt) = s2 at *
    obtain ⟨e1, e2, e3, e4, e5, e6, e7⟩ := hs
    unfold hapEnd
    cases hk : s2.kind with
    | none =>
      simp only
      have f := start_f s2 t k
      exact ⟨f.rl.trans e4, f.lg.trans e5, by rw [if_pos rfl]; exact f.d.trans e6, ⟨_, by rw [start_runs, e1], .inr ⟨rfl, f.b, f.k⟩⟩, fun h1 h2 => by rw [start_nolog (by rw [e5]; exact h1), e7]; exact h0 h1 h2⟩
    | some k' =>
      simp only
      split
      · exact ⟨e4, e5, by rw [if_pos rfl]; exact e6, ⟨[], by rw [List.append_nil]; exact e1, .inl ⟨rfl, e2, hk.symm.trans e3⟩⟩, fun h1 h2 => by rw [note_nolog (by show s2.logged = false; rw [e5]; exact h1)]; show s2.log = []; rw [e7]; exact h0 h1 h2⟩
      · split
        · exact ⟨e4, e5, by rw [if_pos rfl]; exact e6, ⟨[], by rw [List.append_nil]; exact e1, .inl ⟨rfl, e2, e3⟩⟩, fun h1 h2 => by unfold MSt.noteOther; rw [note_nolog (by show s2.logged = false; rw [e5]; exact h1)]; show s2.log = []; rw [e7]; exact h0 h1 h2⟩
        · exact ⟨e4, e5, by rw [if_pos rfl]; exact e6, ⟨[], by rw [List.append_nil]; exact e1, .inl ⟨rfl, e2, e3⟩⟩, fun h1 h2 => by rw [e7]; exact h0 h1 h2⟩
theorem down_press {d : List Kd} {k : Kd} (h : DownOk d) (hk : k ∉ d) : DownOk (pressDown k d) := by
  rcases h with rfl | rfl | rfl | rfl <;> cases k <;> first | exact absurd (by decide) hk | (unfold DownOk pressDown; decide)
theorem down_rel {d : List Kd} {k : Kd} (h : DownOk d) : DownOk (d.filter fun o => decide (o ≠ k)) := by
  rcases h with rfl | rfl | rfl | rfl <;> cases k <;> (unfold DownOk; decide)
/-! ### the end -/
theorem fresh_wait {s : MSt} {k : Kd} (f : Fresh s k) (ok : s.rules.Ok) : advGo 3 s.beg s = s := by
  have hp := Wd.per_ge ok k
  rcases turn_ways s.beg s k with ⟨w, w2⟩ | ⟨w, ht, _⟩
  · have e : advGo 3 s.beg s = (s.turn s.beg k).1 := advGo_stop f.kd (by rw [← w])
    rw [e]
    rcases w2 with w2 | ⟨w2, h1, h2⟩
    · exact w2
    · rw [w2]
      unfold heardSt
      split
      · rename_i h3
        exfalso
        rw [h3, Bool.true_and] at h2
        have h4 := of_decide_eq_false h2
        rw [Bool.and_eq_true] at h3
        have hd0 := ok.d0
        have : s.rules.d = 0 := by omega
        have h5 := f.he
        rw [this, h3.1] at h5
        rw [h5] at h3
        cases h3.2
      · rfl
  · omega
theorem fresh_end {s : MSt} {k : Kd} (f : Fresh s k) (ok : s.rules.Ok) (hd : s.down = []) (n : Nat) : (advGo (n + 1) (s.beg + s.rules.per k) s).kind = none := by
  have hp := Wd.per_ge ok k
  have hfol : s.following k = none := by
    unfold MSt.following MSt.heldOther
    rw [hd]
    simp [outcome]
  rcases turn_ways (s.beg + s.rules.per k) s k with ⟨w, w2⟩ | ⟨w, ht, _⟩
  · exfalso
    rcases w2 with w2 | ⟨_, h1, _⟩
    · have key : (s.turn (s.beg + s.rules.per k) k).2 = true := by
        have h1 : (s.rules.canHear k && !s.heard && decide (s.beg + s.rules.per k < s.beg + s.rules.d)) = false := by
          cases e : s.rules.canHear k with
          | false => rfl
          | true =>
            unfold Rl.canHear at e
            rw [Bool.and_eq_true] at e
            have := of_decide_eq_true e.2
            rw [decide_eq_false (by omega), Bool.and_false]
        have fh := heardSt_f s k
        rw [turn_go h1 (by rw [fh.b, fh.rl]; omega)]
      rw [key] at w
      cases w
    · omega
  · rw [advGo_go f.kd w]
    rcases go_ways (s := s) (t := s.beg + s.rules.per k) (k := k) with ⟨e, _⟩ | ⟨k', s2, ho, _⟩
    · rw [advGo_none e]
      exact e
    · rw [f.out, hfol] at ho
      cases ho
theorem Rl.per_lt {r : Rl} (ok : r.Ok) (k : Kd) : r.per k < 2 ^ 301 := by
  have h4 := ok.sz
  have e : (2 : Int) ^ 301 = 2 ^ 300 + 2 ^ 300 := by decide
  cases k
  · show r.s + r.p < 2 ^ 301
    omega
  · show r.l + r.p < 2 ^ 301
    omega
theorem turn_at {s : MSt} {k : Kd} (ok : s.rules.Ok) : s.turn (s.beg + s.rules.per k) k = (decJump (s.beg + s.rules.per k) ((heardSt s k).decide (s.beg + s.rules.per k) k), true) := by
  have h1 : (s.rules.canHear k && !s.heard && decide (s.beg + s.rules.per k < s.beg + s.rules.d)) = false := by
    cases e : s.rules.canHear k with
    | false => rfl
    | true =>
      unfold Rl.canHear at e
      rw [Bool.and_eq_true] at e
      have := of_decide_eq_true e.2
      rw [decide_eq_false (by omega), Bool.and_false]
  have fh := heardSt_f s k
  rw [turn_go h1 (by rw [fh.b, fh.rl]; omega), fh.b, fh.rl]
/-- behind the decision: idle, or a mark that has just begun -/
theorem adv_at {s : MSt} {k : Kd} (hk : s.kind = some k) (ok : s.rules.Ok) (hd : s.down = []) : (advGo 4 (s.beg + s.rules.per k) s).kind = none ∨ ∃ k', Fresh (advGo 4 (s.beg + s.rules.per k) s) k' := by
  rw [advGo_go hk (turn_at ok)]
  rcases go_ways (s := s) (t := s.beg + s.rules.per k) (k := k) with ⟨e, _⟩ | ⟨k', s2, ho, f2, kp, hb, e⟩
  · left
    rw [advGo_none e]
    exact e
  · right
    rw [e]
    have ok2 : s2.rules.Ok := by rw [kp.rl]; exact ok
    have hw : s2.word k' = none := by
      have : s2.following k' = none := by
        unfold MSt.following MSt.heldOther
        rw [kp.d, hd]
        simp [outcome]
      unfold MSt.word
      rw [this]
    have ej : s2.jump (s.beg + s.rules.per k) k' = s2 := by
      unfold MSt.jump
      rw [hw]
    rw [ej, ← hb, fresh_wait f2 ok2]
    exact ⟨k', f2⟩
structure FinF (s s' : MSt) : Prop where
  kp : Kept s s'
  kd : s'.kind = none
  b : s'.beg ≤ s.beg + 2 ^ 303
  b1 : s.beg ≤ s'.beg
  r : ∃ e, s'.runs = s.runs ++ e ∧ e.length ≤ 16 ∧ (∀ x ∈ e, 1 ≤ x.2.2 ∧ s.beg ≤ x.1 ∧ x.1 ≤ s'.beg) ∧ rtot e ≤ s'.beg - s.beg
  l : s.log = [] → s'.log = []
theorem Kept.ok {s s' : MSt} (k : Kept s s') (ok : s.rules.Ok) : s'.rules.Ok := by rw [k.rl]; exact ok
theorem fin_ok {s : MSt} (ok : s.rules.Ok) (lg : s.logged = false) (dn : s.down = []) (r : s.runs.length + 100 < sizeLine) (l : s.log = []) : FinR 2 s s.fin ∧ FinF s s.fin := by
  have e303 : (2 : Int) ^ 303 = 2 ^ 301 + 2 ^ 301 + 2 ^ 301 + 2 ^ 301 := by decide
  have e400 : (2 : Int) ^ 301 < 2 ^ 400 := by decide
  unfold MSt.fin
  cases hk : s.kind with
  | none =>
    have e : finGo 4 s = s := by unfold finGo; rw [hk]
    rw [e]
    exact ⟨.done hk, .refl _, hk, by have : (0 : Int) ≤ 2 ^ 303 := by decide
                                     omega, Int.le_refl _, ⟨[], by simp, by simp, by simp, by show (0 : Int) ≤ s.beg - s.beg; omega⟩, fun h => h⟩
  | some k =>
    have hp := Wd.per_ge ok k
    have hp2 := Rl.per_lt ok k
    have rm : Rm2 4 (s.beg + s.rules.per k) s := ⟨ok, lg, by rw [dn]; decide, by omega, by rw [l]; decide, by omega⟩
    obtain ⟨a1, a2⟩ := adv_ok rm
    have e4 : s.adv (s.beg + s.rules.per k) = advGo 4 (s.beg + s.rules.per k) s := (advGo_mono (adv_four rm) (show 4 ≤ 2000 by decide)).2
    have a3 := adv_at hk ok dn
    rw [← e4] at a3
    have e : finGo 4 s = finGo 3 (s.adv (s.beg + s.rules.per k)) := by rw [finGo, hk]
    rw [e]
    have a1' : AdvOk 2000 (s.beg + s.rules.per k) s := a1
    have hgo : s.adv (s.beg + s.rules.per k) = advGo 2000 (s.beg + s.rules.per k) s := rfl
    obtain ⟨e1, r1, r2, r3, r4⟩ := a2.r
    have hlog := a2.l lg l
    have hkp := a2.kp
    have hb1 := a2.b1
    have hb2 := a2.b2
    have hR : ∀ s', FinR 1 (s.adv (s.beg + s.rules.per k)) s' → FinR 2 s s' := fun s' h => .go hk a1' (by rw [← hgo]; exact h)
    generalize s.adv (s.beg + s.rules.per k) = s1 at *
    rcases a3 with a3 | ⟨k', f⟩
    · have e : finGo 3 s1 = s1 := by unfold finGo; rw [a3]
      rw [e]
      exact ⟨hR _ (.done a3), hkp, a3, by omega, hb1, ⟨e1, r1, by omega, r3, r4⟩, fun _ => hlog⟩
    · have ok1 := hkp.ok ok
      have hp3 := Wd.per_ge ok1 k'
      have hp4 := Rl.per_lt ok1 k'
      have rm1 : Rm2 4 (s1.beg + s1.rules.per k') s1 := ⟨ok1, hkp.lg.trans lg, by rw [hkp.d, dn]; decide, by rw [r1, List.length_append]; omega, by rw [hlog]; decide, by omega⟩
      obtain ⟨c1, c2⟩ := adv_ok rm1
      have e5 : finGo 3 s1 = finGo 2 (s1.adv (s1.beg + s1.rules.per k')) := by rw [finGo, f.kd]
      have c3 : (s1.adv (s1.beg + s1.rules.per k')).kind = none := by
        have e6 : s1.adv (s1.beg + s1.rules.per k') = advGo 4 (s1.beg + s1.rules.per k') s1 := (advGo_mono (adv_four rm1) (show 4 ≤ 2000 by decide)).2
        rw [e6]
        exact fresh_end f ok1 (by rw [hkp.d, dn]) 3
      have e7 : finGo 2 (s1.adv (s1.beg + s1.rules.per k')) = s1.adv (s1.beg + s1.rules.per k') := by unfold finGo; rw [c3]
      rw [e5, e7]
      obtain ⟨e2, q1, q2, q3, q4⟩ := c2.r
      refine ⟨hR _ (.go f.kd c1 (.done c3)), hkp.trans c2.kp, c3, ?_, Int.le_trans hb1 c2.b1, ⟨e1 ++ e2, ?_, ?_, ?_, ?_⟩, fun _ => c2.l (hkp.lg.trans lg) hlog⟩
      · have := c2.b2
        omega
      · rw [q1, r1, List.append_assoc]
      · rw [List.length_append]
        omega
      · intro x hx
        have g1 := c2.b1
        rcases List.mem_append.mp hx with hx | hx
        · have := r3 x hx
          omega
        · have := q3 x hx
          omega
      · show rsum marksC (e1 ++ e2) ≤ _
        rw [rsum_app]
        show rtot e1 + rtot e2 ≤ _
        omega
/-! ### states of a moderate size -/
def Tk (t : Int) : Prop := -2 ^ 303 ≤ t ∧ t ≤ 2 ^ 303
structure Good (c : Nat) (s : MSt) : Prop where
  ok : s.rules.Ok
  lg : s.logged = false
  ln : s.log = []
  dn : DownOk s.down
  rl : s.runs.length ≤ 20 * c
  t1 : ∀ x ∈ s.runs, 1 ≤ x.2.2
  tot : rtot s.runs ≤ c * 2 ^ 305
  b1 : -2 ^ 304 ≤ s.beg
  b2 : s.beg ≤ 2 ^ 304
  bg : ∀ x ∈ s.runs, -2 ^ 304 ≤ x.1 ∧ x.1 ≤ 2 ^ 304
theorem down_len {d : List Kd} (h : DownOk d) : d.length ≤ 2 := by
  rcases h with rfl | rfl | rfl | rfl <;> decide
theorem new_good {r : Rl} (ok : r.Ok) : Good 0 (MSt.new r false) := ⟨ok, rfl, rfl, .inl rfl, Nat.le_refl _, by simp [MSt.new], by show (0 : Int) ≤ (0 : Nat) * 2 ^ 305; decide, by show -2 ^ 304 ≤ (0 : Int); decide, by show (0 : Int) ≤ 2 ^ 304; decide, by simp [MSt.new]⟩
theorem Good.mono {c d : Nat} {s : MSt} (h : Good c s) (hc : c ≤ d) : Good d s := by
  refine ⟨h.ok, h.lg, h.ln, h.dn, by have := h.rl; omega, h.t1, ?_, h.b1, h.b2, h.bg⟩
  have := h.tot
  have h2 : (c : Int) * 2 ^ 305 ≤ d * 2 ^ 305 := Int.mul_le_mul_of_nonneg_right (by omega) (by decide)
  omega
theorem succ_mul' (c : Nat) (x : Int) : ((c + 1 : Nat) : Int) * x = c * x + x := by
  rw [Int.natCast_succ, Int.add_mul, Int.one_mul]
theorem adv_good {c : Nat} {s : MSt} {t : Int} (h : Good c s) (ht : Tk t) (hc : c ≤ 10000) : AdvOk 2000 t s ∧ Good (c + 1) (s.adv t) ∧ Kept s (s.adv t) := by
  have e1 : (2 : Int) ^ 304 = 2 ^ 303 + 2 ^ 303 := by decide
  have e2 : (2 : Int) ^ 305 = 2 ^ 304 + 2 ^ 304 := by decide
  have e3 : (2 : Int) ^ 305 < 2 ^ 400 := by decide
  have h1 := h.b1
  have h2 := h.b2
  obtain ⟨t1, t2⟩ := ht
  have e4 : sizeLine = 16777216 := rfl
  have hr := h.rl
  obtain ⟨a, f⟩ := adv_ok (t := t) (s := s) ⟨h.ok, h.lg, down_len h.dn, by omega, by rw [h.ln]; decide, by omega⟩
  obtain ⟨e, r1, r2, r3, r4⟩ := f.r
  have b1 := f.b1
  have b2 := f.b2
  refine ⟨a, ⟨f.kp.ok h.ok, f.kp.lg.trans h.lg, f.l h.lg h.ln, by rw [f.kp.d]; exact h.dn, ?_, ?_, ?_, by omega, by omega, ?_⟩, f.kp⟩
  · rw [r1, List.length_append]
    omega
  · intro x hx
    rw [r1] at hx
    rcases List.mem_append.mp hx with hx | hx
    · exact h.t1 x hx
    · exact (r3 x hx).1
  · rw [r1]
    show rsum marksC (s.runs ++ e) ≤ _
    rw [rsum_app, succ_mul']
    have := h.tot
    show rtot s.runs + rtot e ≤ _
    omega
  · intro x hx
    rw [r1] at hx
    rcases List.mem_append.mp hx with hx | hx
    · exact h.bg x hx
    · have := r3 x hx
      omega
theorem hap_good {c : Nat} {s : MSt} {t : Int} {k : Kd} {dn : Bool} (h : Good c s) (ht : Tk t) (hn : dn = true → k ∉ s.down) : Good (c + 1) (s.happen t k dn) := by
  have f := hap_f s t k dn
  have e1 : (2 : Int) ^ 304 = 2 ^ 303 + 2 ^ 303 := by decide
  have e2 : (2 : Int) ^ 305 = 2 ^ 304 + 2 ^ 304 := by decide
  have e3 : (1 : Int) ≤ 2 ^ 303 := by decide
  have h1 := h.b1
  have h2 := h.b2
  obtain ⟨t1, t2⟩ := ht
  obtain ⟨e, r1, r2⟩ := f.r
  have hr := h.rl
  have htot := h.tot
  refine ⟨by rw [f.rl]; exact h.ok, f.lg.trans h.lg, f.l h.lg h.ln, ?_, ?_, ?_, ?_, ?_, ?_, ?_⟩
  · rw [f.d]
    cases dn with
    | true => exact down_press h.dn (hn rfl)
    | false => exact down_rel h.dn
  · rw [r1, List.length_append]
    rcases r2 with ⟨rfl, _⟩ | ⟨rfl, _⟩
    · show s.runs.length + 0 ≤ _
      omega
    · show s.runs.length + 1 ≤ _
      omega
  · intro x hx
    rw [r1] at hx
    rcases List.mem_append.mp hx with hx | hx
    · exact h.t1 x hx
    · rcases r2 with ⟨rfl, _⟩ | ⟨rfl, _⟩
      · cases hx
      · obtain rfl := List.mem_singleton.mp hx
        exact Int.le_refl _
  · rw [r1]
    show rsum marksC (s.runs ++ e) ≤ _
    rw [rsum_app, succ_mul']
    show rtot s.runs + rtot e ≤ _
    rcases r2 with ⟨rfl, _⟩ | ⟨rfl, _⟩
    · show rtot s.runs + 0 ≤ _
      omega
    · rw [rtot_one]
      show rtot s.runs + 1 * 1 ≤ _
      omega
  · rcases r2 with ⟨_, e, _⟩ | ⟨_, e, _⟩ <;> omega
  · rcases r2 with ⟨_, e, _⟩ | ⟨_, e, _⟩ <;> omega
  · intro x hx
    rw [r1] at hx
    rcases List.mem_append.mp hx with hx | hx
    · exact h.bg x hx
    · rcases r2 with ⟨rfl, _⟩ | ⟨rfl, _⟩
      · cases hx
      · obtain rfl := List.mem_singleton.mp hx
        show -2 ^ 304 ≤ t ∧ t ≤ 2 ^ 304
        omega
theorem good_runs {c : Nat} {s : MSt} (h : Good c s) (hc : c ≤ 4000) : RunsOk s.runs := by
  refine ⟨h.t1, ?_, by have := h.rl; omega, fun x hx => ?_⟩
  case refine_2 =>
    have := h.bg x hx
    have h5 : (2 : Int) ^ 304 < 2 ^ 400 := by decide
    omega
  have h1 := h.tot
  have h2 : (c : Int) * 2 ^ 305 ≤ 4000 * 2 ^ 305 := Int.mul_le_mul_of_nonneg_right (by omega) (by decide)
  have h3 : (4000 : Int) * 2 ^ 305 < 2 ^ 400 := by decide
  omega
theorem good_fin {c : Nat} {s : MSt} (h : Good c s) (hc : c ≤ 4000) (hd : s.down = []) : FinR 2 s s.fin ∧ RunsOk s.fin.runs ∧ FinF s s.fin := by
  have e4 : sizeLine = 16777216 := rfl
  have hr := h.rl
  obtain ⟨a, f⟩ := fin_ok h.ok h.lg hd (by omega) h.ln
  refine ⟨a, ?_, f⟩
  obtain ⟨e, r1, r2, r3, r4⟩ := f.r
  refine ⟨?_, ?_, ?_, ?_⟩
  · intro x hx
    rw [r1] at hx
    rcases List.mem_append.mp hx with hx | hx
    · exact h.t1 x hx
    · exact (r3 x hx).1
  · rw [r1]
    show rsum marksC (s.runs ++ e) < _
    rw [rsum_app]
    show rtot s.runs + rtot e < _
    have h1 := h.tot
    have h2 : (c : Int) * 2 ^ 305 ≤ 4000 * 2 ^ 305 := Int.mul_le_mul_of_nonneg_right (by omega) (by decide)
    have h3 : (4000 : Int) * 2 ^ 305 + 2 ^ 303 < 2 ^ 400 := by decide
    have := f.b
    omega
  · rw [r1, List.length_append]
    omega
  · intro x hx
    have h5 : (2 : Int) ^ 304 + 2 ^ 303 < 2 ^ 400 := by decide
    have h6 := h.b1
    have h7 := h.b2
    have h8 := f.b
    rw [r1] at hx
    rcases List.mem_append.mp hx with hx | hx
    · have := h.bg x hx
      omega
    · have := r3 x hx
      omega
end Sq
end
section
set_option Elab.async false
set_option linter.all false
set_option maxRecDepth 100000
set_option maxHeartbeats 4000000
set_option exponentiation.threshold 500
/-! The live keyer in plain Lean. -/
namespace Sq
open PySem PyProof.Rows
structure Mom where
  st : MSt
  tick : Option Int
  evs : List Ev
/-- the clock up to a tick, then an event -/
def Mom.behind (m : Mom) (t : Int) : Option (Kd × Bool) → Mom
  | none => ⟨m.st.adv t, some t, m.evs⟩
  | some (k, d) => ⟨(m.st.adv t).happen t k d, some t, m.evs ++ [(t, k, d)]⟩
def relAll (t : Int) (ks : List Kd) (s : MSt) : MSt := ks.foldl (fun s k => s.happen t k false) s
def Mom.wouldSt (m : Mom) : MSt := (relAll (m.tick.getD 0) m.st.down m.st).fin
def Mom.would (m : Mom) : List Run := m.wouldSt.tidy
inductive Call where
  | press (k : Kd) (t : Int) | release (k : Kd) (t : Int) | wait (t : Int)
structure Ky where
  rules : Rl
  prev : List Mom
  cur : Mom
  calls : List Call
def Mom.new (r : Rl) : Mom := ⟨MSt.new r false, none, []⟩
def Ky.new (r : Rl) : Ky := ⟨r, [], Mom.new r, []⟩
def Ky.go (k : Ky) (c : Call) (t : Int) (e : Option (Kd × Bool)) : Ky := ⟨k.rules, k.prev ++ [k.cur], k.cur.behind t e, k.calls ++ [c]⟩
def Ky.press (k : Ky) (l : Kd) (t : Int) : Ky := k.go (.press l t) t (some (l, true))
def Ky.release (k : Ky) (l : Kd) (t : Int) : Ky := k.go (.release l t) t (some (l, false))
def Ky.wait (k : Ky) (t : Int) : Ky := k.go (.wait t) t none
def Ky.undo (k : Ky) : Ky := match k.prev.getLast? with
  | none => k
  | some m => ⟨k.rules, k.prev.dropLast, m, k.calls.dropLast⟩
/-- the levers that are remembered, in the order of the alphabet -/
def Mom.remembered (m : Mom) : List Kd := match m.st.kind with
  | none => []
  | some k => (if (match k with | .s => m.st.other | .l => m.st.own) then [Kd.l] else []) ++ (if (match k with | .s => m.st.own | .l => m.st.other) then [Kd.s] else [])
/-- the tick of the next decision -/
def Mom.next (m : Mom) : Option Int := m.st.kind.map fun k => m.st.beg + m.st.rules.per k
/-! ### moments of a moderate size -/
structure MGood (c : Nat) (m : Mom) : Prop where
  g : Good c m.st
  t : ∀ t, m.tick = some t → Tk t
  d : m.tick = none → m.st.down = []
  e : m.evs.length ≤ c
theorem relAll_good {c : Nat} {t : Int} (ht : Tk t) : ∀ {ks : List Kd} {s : MSt}, Good c s → Good (c + ks.length) (relAll t ks s)
  | [], s, h => h
  | k :: ks, s, h => by
    have h2 := relAll_good (c := c + 1) ht (ks := ks) (hap_good (dn := false) (k := k) h ht (fun z => by cases z))
    have e : c + (k :: ks).length = c + 1 + ks.length := by rw [List.length_cons]; omega
    rw [e]
    exact h2
theorem relAll_down {t : Int} : ∀ {ks : List Kd} {s : MSt}, (relAll t ks s).down = s.down.filter fun o => decide (o ∉ ks)
  | [], s => by
    show s.down = _
    rw [List.filter_eq_self.mpr fun o _ => by simp]
  | k :: ks, s => by
    show (relAll t ks (s.happen t k false)).down = _
    rw [relAll_down, (hap_f s t k false).d]
    simp only [Bool.false_eq_true, if_false]
    rw [List.filter_filter]
    congr 1
    funext o
    by_cases h : o = k <;> simp [h]
theorem relAll_nil {t : Int} {s : MSt} : (relAll t s.down s).down = [] := by
  rw [relAll_down]
  refine List.filter_eq_nil_iff.mpr fun o ho => ?_
  simp [ho]
theorem MGood.mono {c d : Nat} {m : Mom} (h : MGood c m) (hc : c ≤ d) : MGood d m := ⟨h.g.mono hc, h.t, h.d, Nat.le_trans h.e hc⟩
theorem new_mgood {r : Rl} (ok : r.Ok) : MGood 0 (Mom.new r) := ⟨new_good ok, fun _ h => (nomatch h), fun _ => rfl, Nat.le_refl _⟩
theorem beh_good {c : Nat} {m : Mom} {t : Int} {e : Option (Kd × Bool)} (h : MGood c m) (ht : Tk t) (hc : c ≤ 4000) (hn : ∀ k, e = some (k, true) → k ∉ m.st.down) : AdvOk 2000 t m.st ∧ Good (c + 1) (m.st.adv t) ∧ Kept m.st (m.st.adv t) ∧ MGood (c + 2) (m.behind t e) := by
  obtain ⟨a, g, k⟩ := adv_good h.g ht (by omega)
  refine ⟨a, g, k, ?_⟩
  cases e with
  | none => exact ⟨g.mono (by omega), fun t' e => by cases e; exact ht, fun z => (nomatch z), Nat.le_trans h.e (by omega)⟩
  | some e =>
    obtain ⟨l, d⟩ := e
    refine ⟨hap_good g ht fun hd => by rw [k.d]; exact hn l (by rw [hd]), fun t' e => by cases e; exact ht, fun z => (nomatch z), ?_⟩
    show (m.evs ++ [(t, l, d)]).length ≤ _
    rw [List.length_append]
    have := h.e
    show m.evs.length + 1 ≤ _
    omega
theorem would_good {c : Nat} {m : Mom} (h : MGood c m) (hc : c ≤ 3000) : FinR 2 (relAll (m.tick.getD 0) m.st.down m.st) m.wouldSt ∧ RunsOk m.wouldSt.runs := by
  have ht : Tk (m.tick.getD 0) := by
    cases e : m.tick with
    | none => exact ⟨by decide, by decide⟩
    | some t => exact h.t t e
  have g := relAll_good ht (ks := m.st.down) h.g
  have hl := down_len h.g.dn
  obtain ⟨a, b, _⟩ := good_fin g (by omega) relAll_nil
  exact ⟨a, b⟩
/-! ### keyers -/
structure KyGood (n : Nat) (k : Ky) : Prop where
  ok : k.rules.Ok
  cl : k.calls.length = k.prev.length
  cn : k.calls.length ≤ n
  ms : ∀ m ∈ k.prev ++ [k.cur], MGood (2 * n) m ∧ m.st.rules = k.rules
theorem ky_new {r : Rl} (ok : r.Ok) : KyGood 0 (Ky.new r) := ⟨ok, rfl, Nat.le_refl _, fun m hm => by
  obtain rfl := List.mem_singleton.mp hm
  exact ⟨new_mgood ok, rfl⟩⟩
theorem KyGood.cur {n : Nat} {k : Ky} (h : KyGood n k) : MGood (2 * n) k.cur := (h.ms _ (by simp)).1
theorem KyGood.go {n : Nat} {k : Ky} (h : KyGood n k) (c : Call) {t : Int} {e : Option (Kd × Bool)} (ht : Tk t) (hn : n ≤ 2000) (hd : ∀ l, e = some (l, true) → l ∉ k.cur.st.down) : KyGood (n + 1) (k.go c t e) := by
  obtain ⟨a, g, kp, b⟩ := beh_good h.cur ht (by omega) hd
  refine ⟨h.ok, ?_, ?_, fun m hm => ?_⟩
  · show (k.calls ++ [c]).length = (k.prev ++ [k.cur]).length
    rw [List.length_append, List.length_append, h.cl]
    rfl
  · show (k.calls ++ [c]).length ≤ _
    rw [List.length_append]
    exact Nat.succ_le_succ h.cn
  · rcases List.mem_append.mp hm with hm | hm
    · exact ⟨(h.ms m hm).1.mono (by omega), (h.ms m hm).2⟩
    · obtain rfl := List.mem_singleton.mp hm
      refine ⟨b.mono (by omega), ?_⟩
      have hr := (h.ms k.cur (by simp)).2
      have e1 : (k.cur.st.adv t).rules = k.rules := by rw [kp.rl]; exact hr
      show (k.cur.behind t e).st.rules = _
      cases e with
      | none => exact e1
      | some e =>
        show ((k.cur.st.adv t).happen t e.1 e.2).rules = _
        rw [(hap_f _ _ _ _).rl]
        exact e1
theorem KyGood.mono {n m : Nat} {k : Ky} (h : KyGood n k) (hm : n ≤ m) : KyGood m k := ⟨h.ok, h.cl, Nat.le_trans h.cn hm, fun x hx => ⟨(h.ms x hx).1.mono (by omega), (h.ms x hx).2⟩⟩
theorem getLast_cut {α : Type} {l : List α} {a : α} (h : l.getLast? = some a) : l.dropLast ++ [a] = l := by
  have hn : l ≠ [] := fun e => by rw [e] at h; cases h
  rw [List.getLast?_eq_some_getLast hn] at h
  have e := List.dropLast_concat_getLast hn
  rw [Option.some.inj h] at e
  exact e
theorem KyGood.undo {n : Nat} {k : Ky} (h : KyGood n k) : KyGood n k.undo := by
  unfold Ky.undo
  cases e : k.prev.getLast? with
  | none => exact h
  | some m =>
    have e2 := getLast_cut e
    refine ⟨h.ok, ?_, ?_, fun x hx => ?_⟩
    · show k.calls.dropLast.length = k.prev.dropLast.length
      rw [List.length_dropLast, List.length_dropLast, h.cl]
    · show k.calls.dropLast.length ≤ n
      rw [List.length_dropLast]
      have := h.cn
      omega
    · rw [show (k.prev.dropLast ++ [m]) = k.prev from e2] at hx
      exact h.ms x (List.mem_append_left _ hx)
end Sq
end
section
set_option Elab.async false
set_option linter.all false
set_option maxRecDepth 100000
set_option maxHeartbeats 4000000
/-! Readings step by step; defs as constants of the module; a field as a target. -/
namespace Sq
open PySem PySem.Spec PyProof.Rows L2
/-! ### a field as a target of a tuple -/
def gFld (K : PySem.W.Frag) (to : TE) (f : Str) : TG := fun v σ H Q => to σ H fun x H1 => ∃ a C dx fs, x = .ref a ∧ H1 a = some (.ins C dx fs) ∧ Cls K C ∧ NoAttr K C f ∧ fs.length < 1000 ∧ Q σ (upd H1 a (.ins C dx (putF f v fs)))
theorem pg_fld {X : Cx} {pos : Pos} {o : Expr} {f : Str} {to : TE} (ho : PE X o to)
    (ha : ∀ v, assign (.Attribute o f pos) X.env v = (do
      let ov ← holding [v] (eval o X.env)
      standAt pos.atName
      holding [v, ov] (setAttr ov f v)
      release [v, ov] []) := by intro _; rfl) : PG X (.Attribute o f pos) (gFld X.K to f) := by
  refine ⟨fun pins s σ H v u Q I r h => ?_⟩
  rw [ha]
  refine wpAny_bind (wpAny_holding (thn (ho.run pins s σ H _ I h) fun ov s1 ⟨x, H1, I1, r1, a, C, dx, fs, ex, ea, c, n, l, q⟩ => ?_))
  subst ex
  obtain rfl : ov = Value.ref a := r1
  refine wpAny_bind (wpAny_standAt (wpAny_bind (wpAny_holding (setattr_ok I1 ea c n l r fun s3 I3 => ?_))))
  exact wpAny_release ⟨σ, _, I3, q⟩
/-! ### defs, methods, classes as constants -/
section
variable {P : Program} {w : World} {K : PySem.W.Frag} {mg : Str → Option Value} {base : Heap}
theorem calD {x : Str} {params : Arguments} {body : List Stmt} {scope : Scope} {N ps : List Str} {k : Nat} {sp : Sp} {f : Addr} (hF : ∃ fd, FunD K x x params body scope [] [] f fd) (hm : mg x = some (.ref f)) (S : FnScope N ps scope)
    (hb : ∀ (kV doc pm : Value) (an : Option Addr) (cdv ct : Value) (us : List Value), us.length = ps.length → bindArgs (PySem.W.fnOf x x params body scope .none kV doc pm an cdv ct) ⟨us, []⟩ = pure (ps.zip us))
    (len : ∀ vs H Q E, sp vs H Q E → vs.length = ps.length)
    (hbody : ∀ (cdv : Value) (A : Around) (outer : List Env) (s : Shared) (H : Hp) (vs : List V) (Q : VK) (E : XK), Room k (A.deeper (envOfC x scope s.heap.objs.size f cdv)) → sp vs H Q E →
      ∃ t, PSs (cxOf CX0 P w K mg base N x scope f cdv A outer s H E).nox body t ∧ t { nx := fun _ H' => Q .non H', rt := Q } (start N vs) H) : C8.Cal P w K mg base (k + 1) x sp [] := by
  obtain ⟨fd, F⟩ := hF
  refine ⟨f, fd, ps, [], F.ok S len fun cdv A outer s H vs Q E hr h => ?_, hm, F.kp, F.bindsN hb, .nil⟩
  obtain ⟨t, h1, h2⟩ := hbody cdv A outer s H vs Q E hr h
  exact ⟨t, h1.nox, h2⟩
theorem metD {m qual : Str} {C : Addr} {params : Arguments} {body : List Stmt} {scope : Scope} {N ps : List Str} {k : Nat} {sp : Sp} {f : Addr} (c : Cls K C) (me : Meth K C m f) (hF : ∃ fd, FunD K m qual params body scope [] [] f fd) (S : FnScope N ps scope)
    (hb : ∀ (kV doc pm : Value) (an : Option Addr) (cdv ct : Value) (us : List Value), us.length = ps.length → bindArgs (PySem.W.fnOf m qual params body scope .none kV doc pm an cdv ct) ⟨us, []⟩ = pure (ps.zip us))
    (len : ∀ vs H Q E, sp vs H Q E → vs.length = ps.length)
    (hbody : ∀ (cdv : Value) (A : Around) (outer : List Env) (s : Shared) (H : Hp) (vs : List V) (Q : VK) (E : XK), Room k (A.deeper (envOfC qual scope s.heap.objs.size f cdv)) → sp vs H Q E →
      ∃ t, PSs (cxOf CX0 P w K mg base N qual scope f cdv A outer s H E).nox body t ∧ t { nx := fun _ H' => Q .non H', rt := Q } (start N vs) H) : C8.Met P w K mg base (k + 1) C m sp [] := by
  obtain ⟨fd, F⟩ := hF
  refine ⟨f, fd, ps, [], c, me, F.ok S len fun cdv A outer s H vs Q E hr h => ?_, F.bindsN hb, .nil⟩
  obtain ⟨t, h1, h2⟩ := hbody cdv A outer s H vs Q E hr h
  exact ⟨t, h1.nox, h2⟩
theorem makD {x qual : Str} {C : Addr} {params : Arguments} {body : List Stmt} {scope : Scope} {N ps : List Str} {k : Nat} {sp : Sp} {f : Addr} (M : Mk K C f) (hm : mg x = some (.ref C)) (hF : ∃ fd, FunD K "__init__" qual params body scope [] [] f fd) (S : FnScope N ps scope)
    (hb : ∀ (kV doc pm : Value) (an : Option Addr) (cdv ct : Value) (us : List Value), us.length = ps.length → bindArgs (PySem.W.fnOf "__init__" qual params body scope .none kV doc pm an cdv ct) ⟨us, []⟩ = pure (ps.zip us))
    (len : ∀ vs H Q E, sp vs H Q E → vs.length = ps.length)
    (hbody : ∀ (cdv : Value) (A : Around) (outer : List Env) (s : Shared) (H : Hp) (vs : List V) (Q : VK) (E : XK), Room k (A.deeper (envOfC qual scope s.heap.objs.size f cdv)) → sp vs H Q E →
      ∃ t, PSs (cxOf CX0 P w K mg base N qual scope f cdv A outer s H E).nox body t ∧ t { nx := fun _ H' => Q .non H', rt := Q } (start N vs) H) : C8.Mak P w K mg base (k + 1) x C sp [] := by
  obtain ⟨fd, F⟩ := hF
  refine ⟨f, fd, ps, [], M, F.ok S len fun cdv A outer s H vs Q E hr h => ?_, hm, F.bindsN hb, .nil⟩
  obtain ⟨t, h1, h2⟩ := hbody cdv A outer s H vs Q E hr h
  exact ⟨t, h1.nox, h2⟩
end
/-- a def with defaults -/
theorem fnD {P : Program} {w : World} {K : PySem.W.Frag} {mg : Str → Option Value} {base : Heap} {x : Str} {params : Arguments} {body : List Stmt} {scope : Scope} {dvs : List V} {N ps : List Str} {k : Nat} {sp : Sp} {f : Addr} (hF : ∃ fd, FunD K x x params body scope dvs [] f fd) (S : FnScope N ps scope)
    (len : ∀ vs H Q E, sp vs H Q E → vs.length = ps.length)
    (hbody : ∀ (cdv : Value) (A : Around) (outer : List Env) (s : Shared) (H : Hp) (vs : List V) (Q : VK) (E : XK), Room k (A.deeper (envOfC x scope s.heap.objs.size f cdv)) → sp vs H Q E →
      ∃ t, PSs (cxOf CX0 P w K mg base N x scope f cdv A outer s H E).nox body t ∧ t { nx := fun _ H' => Q .non H', rt := Q } (start N vs) H) : ∃ fd, FunD K x x params body scope dvs [] f fd ∧ FnOk P w K mg base CX0 (k + 1) f fd ps sp := by
  obtain ⟨fd, F⟩ := hF
  refine ⟨fd, F, F.ok S len fun cdv A outer s H vs Q E hr h => ?_⟩
  obtain ⟨t, h1, h2⟩ := hbody cdv A outer s H vs Q E hr h
  exact ⟨t, h1.nox, h2⟩
/-! ### readings, one step each -/
section
variable {D : Ends} {σ : L2.St} {H : Hp} {Q : VK} {K : PySem.W.Frag} {R : Bool → Hp → Prop}
theorem r_seq {t u : TS} (h : t { D with nx := u D } σ H) : tSeq t u D σ H := h
theorem r_next (h : D.nx σ H) : tNext D σ H := h
theorem r_brk (h : D.bk σ H) : tBreak D σ H := h
theorem r_cont (h : D.ct σ H) : tCont D σ H := h
theorem r_ret {te : TE} (h : te σ H D.rt) : tRet te D σ H := h
theorem r_retN (h : D.rt .non H) : tRetN D σ H := h
theorem r_drop {te : TE} (h : te σ H fun _ H1 => D.nx σ H1) : tDrop te D σ H := h
theorem r_asg {te : TE} {g : TG} (h : te σ H fun x H1 => g x σ H1 D.nx) : tAsg te g D σ H := h
theorem r_par {i j : Nat} {ta : TA} (h : ta σ H fun vs H1 => ∃ v w, vs = [v, w] ∧ D.nx ((σ.set i (some v)).set j (some w)) H1) : tPar i j ta D σ H := h
theorem r_par3 {i j l : Nat} {ta : TA} (h : ta σ H fun vs H1 => ∃ v w z, vs = [v, w, z] ∧ D.nx (((σ.set i (some v)).set j (some w)).set l (some z)) H1) : tPar3 i j l ta D σ H := h
theorem r_if {t : TT} {a b : TS} (h : t σ H fun c H1 => if c = true then a D σ H1 else b D σ H1) : tIfS t a b D σ H := h
theorem r_aug {i : Nat} {te : TE} {ti : TIp} {x : V} (e : σ[i]? = some (some x)) (h : te σ H fun y H1 => ti x y H1 fun z H2 => D.nx (σ.set i (some z)) H2) : tAug i te ti D σ H := ⟨x, e, h⟩
theorem r_nx {nx : L2.St → Hp → Prop} {rt : VK} {bk ct : L2.St → Hp → Prop} (h : nx σ H) : ({ nx := nx, rt := rt, bk := bk, ct := ct } : Ends).nx σ H := h
theorem r_rt {nx : L2.St → Hp → Prop} {rt : VK} {bk ct : L2.St → Hp → Prop} {v : V} (h : rt v H) : ({ nx := nx, rt := rt, bk := bk, ct := ct } : Ends).rt v H := h
theorem r_gname {i : Nat} {v : V} {Q : L2.St → Hp → Prop} (h : Q (σ.set i (some v)) H) : gName i v σ H Q := h
theorem r_gtup {n : Nat} {t : TGs} {a : Addr} {xs : List V} {Q : L2.St → Hp → Prop} (hs : SqT K H a xs) (hl : xs.length = n) (h : t xs σ H Q) : gTup K n t (.ref a) σ H Q := ⟨a, xs, rfl, hs, hl, h⟩
theorem r_gcons {t : TG} {u : TGs} {v : V} {r : List V} {Q : L2.St → Hp → Prop} (h : t v σ H fun σ' H' => u r σ' H' Q) : gCons t u (v :: r) σ H Q := ⟨v, r, rfl, h⟩
theorem r_gnil {Q : L2.St → Hp → Prop} (h : Q σ H) : gNil [] σ H Q := ⟨rfl, h⟩
theorem r_gfld {to : TE} {f : Str} {v : V} {Q : L2.St → Hp → Prop} (h : to σ H fun x H1 => ∃ a C dx fs, x = .ref a ∧ H1 a = some (.ins C dx fs) ∧ Cls K C ∧ NoAttr K C f ∧ fs.length < 1000 ∧ Q σ (upd H1 a (.ins C dx (putF f v fs)))) : gFld K to f v σ H Q := h
theorem r_var {i : Nat} {v : V} (e : σ[i]? = some (some v)) (h : Q v H) : tVar i σ H Q := ⟨v, e, h⟩
theorem r_c {v : V} (h : Q v H) : tC v σ H Q := h
theorem r_ifE {t : TT} {a b : TE} (h : t σ H fun c H1 => if c = true then a σ H1 Q else b σ H1 Q) : tIf t a b σ H Q := h
theorem r_op {r : R2} {ta tb : TE} (h : ta σ H fun x H1 => tb σ H1 fun y H2 => r x y H2 Q) : tOp r ta tb σ H Q := h
theorem r_un {r : V → Hp → VK → Prop} {ta : TE} (h : ta σ H fun x H1 => r x H1 Q) : tUn r ta σ H Q := h
theorem r_test {te : TE} (h : te σ H fun x H' => ∃ k, x = .bl k ∧ R k H') : tTest te σ H R := h
theorem r_B {te : TE} (h : te σ H fun x H' => ∃ k, x = .bl k ∧ R k H') : tB te σ H R := h
theorem r_bl {b : Bool} {P : Bool → Prop} (h : P b) : ∃ k, V.bl b = .bl k ∧ P k := ⟨b, rfl, h⟩
theorem r_andV {ta tb : TE} (h : ta σ H fun x H1 => ∃ c, x = .bl c ∧ if c = true then tb σ H1 Q else Q (.bl false) H1) : tAndV ta tb σ H Q := h
theorem r_orV {ta tb : TE} (h : ta σ H fun x H1 => ∃ c, x = .bl c ∧ if c = true then Q (.bl true) H1 else tb σ H1 Q) : tOrV ta tb σ H Q := h
theorem r_notV {ta : TE} (h : ta σ H fun x H1 => ∃ c, x = .bl c ∧ Q (.bl (!c)) H1) : tNotV ta σ H Q := h
theorem r_and {t u : TT} (h : t σ H fun c H1 => if c = true then u σ H1 R else R false H1) : tAnd t u σ H R := h
theorem r_or {t u : TT} (h : t σ H fun c H1 => if c = true then R true H1 else u σ H1 R) : tOr t u σ H R := h
theorem r_not {t : TT} (h : t σ H fun c H1 => R (!c) H1) : tNot t σ H R := h
theorem r_chain {r r' : R2} {ta tb tc : TE} (h : ta σ H fun x H1 => tb σ H1 fun y H2 => r x y H2 fun z H3 => ∃ k, z = .bl k ∧ (if k = true then tc σ H3 fun w' H4 => r' y w' H4 Q else Q (.bl false) H3)) : tChain r r' ta tb tc σ H Q := h
theorem r_tup {t : TA} (h : t σ H fun xs H1 => xs.length ≤ sizeLine ∧ ∀ p, H1 p = none → Q (.ref p) (upd H1 p (.tup xs))) : tTup t σ H Q := h
theorem r_lst {t : TA} (h : t σ H fun xs H1 => xs.length ≤ sizeLine ∧ ∀ p, H1 p = none → Q (.ref p) (upd H1 p (.lst xs))) : tLst t σ H Q := h
theorem r_nil {Q : List V → Hp → Prop} (h : Q [] H) : tNil σ H Q := h
theorem r_cons {ta : TE} {tr : TA} {Q : List V → Hp → Prop} (h : ta σ H fun x H1 => tr σ H1 fun xs H2 => Q (x :: xs) H2) : tCons ta tr σ H Q := h
theorem r_star {te : TE} {t : TA} {Q : List V → Hp → Prop} (h : te σ H fun x H1 => ∃ p xs, x = V.ref p ∧ (SqT K H1 p xs ∨ SqL K H1 p xs) ∧ t σ H1 fun ys H2 => Q (xs ++ ys) H2) : StX.tStar K te t σ H Q := h
theorem r_starL {p : Addr} {xs : List V} {P : List V → Prop} (h : SqL K H p xs) (q : P xs) : ∃ a ys, V.ref p = V.ref a ∧ (SqT K H a ys ∨ SqL K H a ys) ∧ P ys := ⟨p, xs, rfl, .inr h, q⟩
theorem r_starT {p : Addr} {xs : List V} {P : List V → Prop} (h : SqT K H p xs) (q : P xs) : ∃ a ys, V.ref p = V.ref a ∧ (SqT K H a ys ∨ SqL K H a ys) ∧ P ys := ⟨p, xs, rfl, .inl h, q⟩
theorem r_fld {ta : TE} {f : Str} (h : ta σ H fun x H1 => ∃ a C dx fs v, x = .ref a ∧ H1 a = some (.ins C dx fs) ∧ Cls K C ∧ NoAttr K C f ∧ fs.lookup f = some v ∧ Q v H1) : tFld K ta f σ H Q := h
theorem r_sfld {ta tv : TE} {f : Str} (h : tv σ H fun y H1 => ta σ H1 fun x H2 => ∃ a C dx fs, x = .ref a ∧ H2 a = some (.ins C dx fs) ∧ Cls K C ∧ NoAttr K C f ∧ fs.length < 1000 ∧ D.nx σ (upd H2 a (.ins C dx (putF f y fs)))) : sFld K ta tv f D σ H := h
theorem r_call {sp : Sp} {dvs : List V} {E : XK} {t : TA} (h : t σ H fun vs H1 => sp (vs ++ dvs) H1 Q E) : tCall sp dvs E t σ H Q := h
theorem r_meth {C : Addr} {m : Str} {sp : Sp} {dvs : List V} {E : XK} {ta : TE} {t : TA} (h : ta σ H fun x H1 => ∃ a dx fs, x = .ref a ∧ H1 a = some (.ins C dx fs) ∧ fs.lookup m = none ∧ t σ H1 fun vs H2 => sp (x :: (vs ++ dvs)) H2 Q E) : tMeth C m sp dvs E ta t σ H Q := h
theorem r_make {C : Addr} {sp : Sp} {dvs : List V} {E : XK} {t : TA} (h : t σ H fun vs H1 => ∀ x dx, H1 x = none → H1 dx = none → dx ≠ x → sp (.ref x :: (vs ++ dvs)) (upd (upd H1 dx (.own x)) x (.ins C dx [])) (fun v H2 => v = .non ∧ Q (.ref x) H2) E) : tMake C sp dvs E t σ H Q := h
theorem r_call0 {sp : Sp} {E : XK} {t : TA} (h : t σ H fun vs H1 => sp vs H1 Q E) : tCall sp [] E t σ H Q := by
  unfold tCall
  simp only [List.append_nil]
  exact h
theorem r_meth0 {C : Addr} {m : Str} {sp : Sp} {E : XK} {ta : TE} {t : TA} (h : ta σ H fun x H1 => ∃ a dx fs, x = .ref a ∧ H1 a = some (.ins C dx fs) ∧ fs.lookup m = none ∧ t σ H1 fun vs H2 => sp (x :: vs) H2 Q E) : tMeth C m sp [] E ta t σ H Q := by
  unfold tMeth
  simp only [List.append_nil]
  exact h
theorem r_make0 {C : Addr} {sp : Sp} {E : XK} {t : TA} (h : t σ H fun vs H1 => ∀ x dx, H1 x = none → H1 dx = none → dx ≠ x → sp (.ref x :: vs) (upd (upd H1 dx (.own x)) x (.ins C dx [])) (fun v H2 => v = .non ∧ Q (.ref x) H2) E) : tMake C sp [] E t σ H Q := by
  unfold tMake
  simp only [List.append_nil]
  exact h
theorem r_cb {r : List V → Hp → VK → Prop} {t : TA} (h : t σ H fun vs H1 => r vs H1 Q) : tCB r t σ H Q := h
theorem r_bm {T : String} {r : V → List V → Hp → VK → Prop} {to : TE} {t : TA} (h : to σ H fun x H1 => tyV K T x H1 ∧ t σ H1 fun xs H2 => r x xs H2 Q) : tBM K T r to t σ H Q := h
theorem r_bm0 {T : String} {r : V → List V → Hp → VK → Prop} {to : TE} (h : to σ H fun x H1 => tyV K T x H1 ∧ r x [] H1 Q) : tBM0 K T r to σ H Q := h
theorem r_m1 {r : V → List V → Hp → VK → Prop} {to te : TE} (h : to σ H fun x H1 => (∃ a, x = .str a) ∧ te σ H1 fun y H2 => r x [y] H2 Q) : tM1 r to te σ H Q := h
theorem r_sl {r : V → Option Int → Option Int → Hp → VK → Prop} {te : TE} {tl th : TO} (h : te σ H fun x H1 => tl σ H1 fun l H2 => th σ H2 fun u H3 => r x l u H3 Q) : tSl r te tl th σ H Q := h
theorem r_noPart {Q : Option Int → Hp → Prop} (h : Q none H) : tNoPart σ H Q := h
theorem r_part {t : TE} {Q : Option Int → Hp → Prop} (h : t σ H fun x H1 => ∃ i, x = .int i ∧ Q (some i) H1) : tPart t σ H Q := h
theorem r_int {i : Int} {P : Int → Prop} (h : P i) : ∃ k, V.int i = .int k ∧ P k := ⟨i, rfl, h⟩
theorem r_revL {te : TE} (h : te σ H fun x H1 => ∃ a xs, x = .ref a ∧ SqL K H1 a xs ∧ ∀ p, H1 p = none → Q (.ref p) (upd H1 p (.lst xs.reverse))) : tRevL K te σ H Q := h
theorem r_dget {td ty : TE} (h : td σ H fun x H1 => ty σ H1 fun y H2 => ∃ a v, x = .ref a ∧ DGet H2 a y (some v) ∧ Q v H2) : tDGet td ty σ H Q := h
theorem r_dget2 {td ty tx : TE} (h : td σ H fun x H1 => ∃ a, x = .ref a ∧ IsD H1 a ∧ ty σ H1 fun y H2 => tx σ H2 fun z H3 => ∃ o, DGet H3 a y o ∧ Q (o.getD z) H3) : tDGet2 td ty tx σ H Q := h
theorem r_daug {td ty tv : TE} {rd : V → V → Hp → VK → Prop} (h : td σ H fun x H1 => ty σ H1 fun y H2 => ∃ a v, x = .ref a ∧ DGet H2 a y (some v) ∧
  tv σ H2 fun y2 H3 => rd v y2 H3 fun z H4 => ∃ H5, DPut H4 a y z H5 ∧ D.nx σ H5) : sDAug td ty tv rd D σ H := h
/-! operators by values -/
theorem r_I0 {g : Int → Int → V} {i j : Int} (h : Q (g i j) H) : rI0 g (.int i) (.int j) H Q := ⟨i, j, rfl, rfl, h⟩
theorem r_I {C : Int → Int → Prop} {g : Int → Int → V} {i j : Int} (c : C i j) (h : Q (g i j) H) : rI C g (.int i) (.int j) H Q := ⟨i, j, rfl, rfl, c, h⟩
theorem r_ip {f : Int → Int → Int} {i j : Int} (h : Q (.int (f i j)) H) : ipI f (.int i) (.int j) H Q := ⟨i, j, rfl, rfl, h⟩
theorem r_rAdd {i j : Int} (h : Q (.int (i + j)) H) : L2.rAdd (.int i) (.int j) H Q := ⟨i, j, rfl, rfl, h⟩
theorem r_eq {x y : V} (e : scal x y = true) (h : Q (.bl (decide (x = y))) H) : rEq x y H Q := ⟨e, h⟩
theorem r_ne {x y : V} (e : scal x y = true) (h : Q (.bl (!decide (x = y))) H) : rNe x y H Q := ⟨e, h⟩
theorem r_ixT {p : Addr} {xs : List V} {i : Int} {v : V} (h : SqT K H p xs) (e : atI xs i = some v) (q : Q v H) : rIxT K (.ref p) (.int i) H Q := ⟨p, xs, i, v, rfl, rfl, h, e, q⟩
theorem r_ixL {p : Addr} {xs : List V} {i : Int} {v : V} (h : SqL K H p xs) (e : atI xs i = some v) (q : Q v H) : rIxL K (.ref p) (.int i) H Q := ⟨p, xs, i, v, rfl, rfl, h, e, q⟩
theorem r_ixS {z : Str} {i : Int} {c : Nat} (h : z.length ≤ sizeLine) (e : atI z.cps.toList i = some c) (q : Q (.str ⟨#[c]⟩) H) : rIxS (.str z) (.int i) H Q := ⟨z, i, c, rfl, rfl, h, e, q⟩
theorem r_inL {x : V} {p : Addr} {xs : List V} (h : SqL K H p xs) (hx : flatV x = true) (ha : xs.all flatV = true) (q : Q (.bl (inV x xs)) H) : rIn K false x (.ref p) H Q := ⟨p, xs, rfl, .inl h, hx, ha, q⟩
theorem r_inT {x : V} {p : Addr} {xs : List V} (h : SqT K H p xs) (hx : flatV x = true) (ha : xs.all flatV = true) (q : Q (.bl (inV x xs)) H) : rIn K false x (.ref p) H Q := ⟨p, xs, rfl, .inr h, hx, ha, q⟩
theorem r_niL {x : V} {p : Addr} {xs : List V} (h : SqL K H p xs) (hx : flatV x = true) (ha : xs.all flatV = true) (q : Q (.bl (!inV x xs)) H) : rIn K true x (.ref p) H Q := ⟨p, xs, rfl, .inl h, hx, ha, q⟩
theorem r_niT {x : V} {p : Addr} {xs : List V} (h : SqT K H p xs) (hx : flatV x = true) (ha : xs.all flatV = true) (q : Q (.bl (!inV x xs)) H) : rIn K true x (.ref p) H Q := ⟨p, xs, rfl, .inr h, hx, ha, q⟩
theorem r_append {l : Addr} {xs : List V} {y : V} (h : H l = some (.lst xs)) (hl : xs.length < sizeLine) (q : Q .non (upd H l (.lst (xs ++ [y])))) : rAppend (.ref l) [y] H Q := ⟨l, xs, y, rfl, rfl, h, hl, q⟩
theorem r_pop {l : Addr} {xs : List V} {y : V} (h : H l = some (.lst xs)) (hy : xs[xs.length - 1]? = some y) (q : Q y (upd H l (.lst xs.dropLast))) : rPop (.ref l) [] H Q := ⟨l, xs, y, rfl, rfl, h, hy, q⟩
theorem r_sum {a : Addr} {ns : List Int} (h : SqL K H a (ns.map V.int)) (q : Q (.int ns.sum) H) : rSum K [.ref a] H Q := ⟨a, ns, rfl, h, q⟩
theorem r_ty (h : tyV K T x H) (q : P) : tyV K T x H ∧ P := ⟨h, q⟩
theorem ty_lst {a : Addr} {xs : List V} (h : SqL K H a xs) : tyV K "list" (.ref a) H := .inl ⟨rfl, _, h⟩
theorem r_slT {a : Addr} {xs : List V} {lo hi : Option Int} (h : SqT K H a xs) (n : (HT.sIx xs.length 0 lo == 0 && HT.sIx xs.length xs.length hi == xs.length) = false) (q : ∀ p, H p = none → Q (.ref p) (upd H p (.tup (cutV xs lo hi)))) : rSlT K (.ref a) lo hi H Q :=
  ⟨a, xs, rfl, h, fun z => by
    have e1 : (HT.sIx xs.length 0 lo == 0) = true := beq_iff_eq.mpr z.1
    have e2 : (HT.sIx xs.length xs.length hi == xs.length) = true := beq_iff_eq.mpr z.2
    rw [e1, e2] at n
    exact Bool.noConfusion n, q⟩
theorem r_slL {a : Addr} {xs : List V} {lo hi : Option Int} (h : SqL K H a xs) (q : ∀ p, H p = none → Q (.ref p) (upd H p (.lst (cutV xs lo hi)))) : rSlL K (.ref a) lo hi H Q := ⟨a, xs, rfl, h, q⟩
theorem r_sz {xs : List V} {P : Prop} (h : Nat.ble xs.length 1000 = true) (q : P) : xs.length ≤ sizeLine ∧ P := ⟨Nat.le_trans (Nat.le_of_ble_eq_true h) (by decide), q⟩
theorem r_tyL {a : Addr} {xs : List V} {P : Prop} (h : SqL K H a xs) (q : P) : tyV K "list" (.ref a) H ∧ P := ⟨ty_lst h, q⟩
theorem r_two {v w : V} {P : V → V → Prop} (q : P v w) : ∃ a b, [v, w] = [a, b] ∧ P a b := ⟨v, w, rfl, q⟩
theorem r_three {v w z : V} {P : V → V → V → Prop} (q : P v w z) : ∃ a b c, [v, w, z] = [a, b, c] ∧ P a b c := ⟨v, w, z, rfl, q⟩
theorem r_ite {c : Bool} {A B : Prop} (h1 : c = true → A) (h2 : c = false → B) : if c = true then A else B := by
  cases c with
  | true => rw [if_pos rfl]; exact h1 rfl
  | false => rw [if_neg Bool.false_ne_true]; exact h2 rfl
theorem r_ifT {c : Bool} {A B : Prop} (e : c = true) (h : A) : if c = true then A else B := by rw [if_pos e]; exact h
theorem r_ifF {c : Bool} {A B : Prop} (e : c = false) (h : B) : if c = true then A else B := by rw [e, if_neg Bool.false_ne_true]; exact h
end
/-! ### readings by name -/
section
variable {X : Cx} {H : Hp} {Q : VK} {K : PySem.W.Frag}
def rLenQ (K : PySem.W.Frag) : List V → Hp → VK → Prop := fun xs H Q => ∃ p ys, xs = [.ref p] ∧ (SqL K H p ys ∨ SqT K H p ys) ∧ Q (.int ys.length) H
theorem cq_len : CallR X (.builtin "len") (rLenQ X.K) := call_len_seq
theorem r_lenS {p : Addr} {ys : List V} (h : SqL K H p ys) (q : Q (.int ys.length) H) : rLenQ K [.ref p] H Q := ⟨p, ys, rfl, .inl h, q⟩
theorem r_lenT {p : Addr} {ys : List V} (h : SqT K H p ys) (q : Q (.int ys.length) H) : rLenQ K [.ref p] H Q := ⟨p, ys, rfl, .inr h, q⟩
def rLenZ : List V → Hp → VK → Prop := fun xs H Q => ∃ z, xs = [.str z] ∧ z.length ≤ sizeLine ∧ Q (.int z.length) H
theorem cq_lenZ : CallR X (.builtin "len") rLenZ := call_len_str
theorem r_lenZ {z : Str} (h : z.length ≤ sizeLine) (q : Q (.int z.length) H) : rLenZ [.str z] H Q := ⟨z, rfl, h, q⟩
def rIsNq : R2 := fun x y H Q => y = .non ∧ Q (.bl (decide (x = .non))) H
theorem oq_isN : OpR X (compareOp .Is) rIsNq := op_isN
theorem r_isN {x : V} (q : Q (.bl (decide (x = .non))) H) : rIsNq x .non H Q := ⟨rfl, q⟩
def rNotNq : R2 := fun x y H Q => y = .non ∧ Q (.bl (!decide (x = .non))) H
theorem oq_notN : OpR X (compareOp .IsNot) rNotNq := op_notN
theorem r_notN {x : V} (q : Q (.bl (!decide (x = .non))) H) : rNotNq x .non H Q := ⟨rfl, q⟩
def rAddZ : R2 := fun x y H Q => ∃ i j, x = .str i ∧ y = .str j ∧ i.length + j.length ≤ sizeLine ∧ Q (.str (i ++ j)) H
theorem oq_addZ : OpR X (binaryOp .Add) rAddZ := op_add_str
theorem r_addZ {i j : Str} (h : i.length + j.length ≤ sizeLine) (q : Q (.str (i ++ j)) H) : rAddZ (.str i) (.str j) H Q := ⟨i, j, rfl, rfl, h, q⟩
def rListO (K : PySem.W.Frag) : List V → Hp → VK → Prop := fun xs H Q => ∃ p ys, xs = [.ref p] ∧ (SqL K H p ys ∨ SqT K H p ys) ∧ ∀ l, H l = none → Q (.ref l) (upd H l (.lst ys))
theorem cq_list : CallR X (.type "list") (rListO X.K) := call_list_of
theorem r_listO {p : Addr} {ys : List V} (h : SqL K H p ys) (q : ∀ l, H l = none → Q (.ref l) (upd H l (.lst ys))) : rListO K [.ref p] H Q := ⟨p, ys, rfl, .inl h, q⟩
def rTupO (K : PySem.W.Frag) : List V → Hp → VK → Prop := fun xs H Q => ∃ p ys, xs = [.ref p] ∧ ((SqL K H p ys ∧ ∀ l, H l = none → Q (.ref l) (upd H l (.tup ys))) ∨ (SqT K H p ys ∧ Q (.ref p) H))
theorem cq_tuple : CallR X (.type "tuple") (rTupO X.K) := call_tuple_of
theorem r_tupO {p : Addr} {ys : List V} (h : SqL K H p ys) (q : ∀ l, H l = none → Q (.ref l) (upd H l (.tup ys))) : rTupO K [.ref p] H Q := ⟨p, ys, rfl, .inl ⟨h, q⟩⟩
def rInt1 : List V → Hp → VK → Prop := fun xs H Q => (∃ i, xs = [.int i] ∧ Q (.int i) H) ∨ ∃ k, xs = [.bl k] ∧ Q (.int (if k then 1 else 0)) H
theorem cq_int1 : CallR X (.type "int") rInt1 := call_int1
theorem r_int1 {i : Int} (q : Q (.int i) H) : rInt1 [.int i] H Q := .inl ⟨i, rfl, q⟩
theorem r_int1b {k : Bool} (q : Q (.int (if k then 1 else 0)) H) : rInt1 [.bl k] H Q := .inr ⟨k, rfl, q⟩
def rStrI : List V → Hp → VK → Prop := fun xs H Q => ∃ i, xs = [.int i] ∧ i.natAbs.log2 < 1920 ∧ Q (.str (toString i)) H
theorem cq_strI : CallR X (.type "str") rStrI := call_str_int
theorem r_strI {i : Int} (h : i.natAbs.log2 < 1920) (q : Q (.str (toString i)) H) : rStrI [.int i] H Q := ⟨i, rfl, h, q⟩
def rIntZ : List V → Hp → VK → Prop := fun xs H Q => ∃ a n, xs = [.str a] ∧ PySem.intText? a = some n ∧ a.length ≤ 640 ∧ Q (.int n) H
theorem cq_intZ : CallR X (.type "int") rIntZ := call_int_str
theorem r_intZ {a : Str} {n : Int} (h : PySem.intText? a = some n) (hl : a.length ≤ 640) (q : Q (.int n) H) : rIntZ [.str a] H Q := ⟨a, n, rfl, h, hl, q⟩
def rMax2 : List V → Hp → VK → Prop := fun xs H Q => ∃ i j, xs = [.int i, .int j] ∧ Q (.int (if j > i then j else i)) H
theorem cq_max (hc : X.calm = true) : CallR X (.builtin "max") rMax2 := call_max2 hc
theorem r_max {i j : Int} (q : Q (.int (if j > i then j else i)) H) : rMax2 [.int i, .int j] H Q := ⟨i, j, rfl, q⟩
def rMin2 : List V → Hp → VK → Prop := fun xs H Q => ∃ i j, xs = [.int i, .int j] ∧ Q (.int (if j < i then j else i)) H
theorem cq_min (hc : X.calm = true) : CallR X (.builtin "min") rMin2 := call_min2 hc
theorem r_min {i j : Int} (q : Q (.int (if j < i then j else i)) H) : rMin2 [.int i, .int j] H Q := ⟨i, j, rfl, q⟩
def rAbs : List V → Hp → VK → Prop := fun xs H Q => ∃ i, xs = [.int i] ∧ Q (.int (if i < 0 then -i else i)) H
theorem cq_abs : CallR X (.builtin "abs") rAbs := call_abs
theorem r_abs {i : Int} (q : Q (.int (if i < 0 then -i else i)) H) : rAbs [.int i] H Q := ⟨i, rfl, q⟩
def rDictC : List V → Hp → VK → Prop := fun xs H Q => ∃ (a : Addr) (kvs : List (Key × V)), xs = [.ref a] ∧ Rd H a (.dK kvs) ∧ ∀ p, H p = none → Q (.ref p) (upd H p (.dK kvs))
theorem cq_dict : CallR X (.type "dict") rDictC := call_dictD
theorem r_dictC {a : Addr} {kvs : List (Key × V)} (h : H a = some (.dK kvs)) (q : ∀ p, H p = none → Q (.ref p) (upd H p (.dK kvs))) : rDictC [.ref a] H Q := ⟨a, kvs, rfl, .of h, q⟩
def rSplitQ : V → List V → Hp → VK → Prop := fun x xs H Q => ∃ a b, x = .str a ∧ xs = [.str b] ∧ (b.length == 0) = false ∧ a.length + 2 ≤ sizeLine ∧ rNewStrs (Txt.split a b) H Q
theorem r_split {a b : Str} (h1 : (b.length == 0) = false) (h2 : a.length + 2 ≤ sizeLine) (q : ∀ p, H p = none → Q (.ref p) (upd H p (.lst ((Txt.split a b).map V.str)))) : rSplitQ (.str a) [.str b] H Q := ⟨a, b, rfl, rfl, h1, h2, q⟩
def rPartQ : V → List V → Hp → VK → Prop := fun x xs H Q => ∃ a b, x = .str a ∧ xs = [.str b] ∧ (b.length == 0) = false ∧ a.length ≤ sizeLine ∧ ∀ p, H p = none → Q (.ref p) (upd H p (.tup [.str (Txt.partition a b).1, .str (Txt.partition a b).2.1, .str (Txt.partition a b).2.2]))
theorem r_part3 {a b : Str} (h1 : (b.length == 0) = false) (h2 : a.length ≤ sizeLine) (q : ∀ p, H p = none → Q (.ref p) (upd H p (.tup [.str (Txt.partition a b).1, .str (Txt.partition a b).2.1, .str (Txt.partition a b).2.2]))) : rPartQ (.str a) [.str b] H Q := ⟨a, b, rfl, rfl, h1, h2, q⟩
def rJoinQ (K : PySem.W.Frag) : V → List V → Hp → VK → Prop := fun x xs H Q => ∃ a p, ∃ ys : List Str, x = .str a ∧ xs = [.ref p] ∧ (SqL K H p (ys.map V.str) ∨ SqT K H p (ys.map V.str)) ∧ (ys.map (·.length)).sum + ys.length * a.length ≤ 16777216 ∧ Q (.str (Txt.join a ys)) H
theorem r_join {a : Str} {p : Addr} {ys : List Str} (h : SqL K H p (ys.map V.str)) (hl : (ys.map (·.length)).sum + ys.length * a.length ≤ 16777216) (q : Q (.str (Txt.join a ys)) H) : rJoinQ K (.str a) [.ref p] H Q := ⟨a, p, ys, rfl, rfl, .inl h, hl, q⟩
end
theorem at0 {α : Type} {x : α} {xs : List α} : atI (x :: xs) 0 = some x := by
  unfold atI ixN
  rw [if_pos (Int.le_refl 0), if_pos (by rw [List.length_cons]; omega)]
  rfl
theorem at_lit {α : Type} {xs : List α} {n : Nat} {x : α} (h : xs[n]? = some x) : atI xs (n : Int) = some x := by
  have hn : n < xs.length := (List.getElem?_eq_some_iff.mp h).1
  unfold atI ixN
  rw [if_pos (by omega), if_pos (by omega)]
  exact h
theorem at_last1 {α : Type} {xs : List α} {x : α} (h : xs.getLast? = some x) : atI xs (-1) = some x := by
  have hn : xs ≠ [] := by
    intro e
    rw [e] at h
    cases h
  have hl : 0 < xs.length := List.length_pos_iff.mpr hn
  unfold atI ixN
  rw [if_neg (by decide), if_pos (by omega)]
  rw [List.getLast?_eq_getElem?] at h
  show xs[((-1 : Int) + xs.length).toNat]? = _
  rw [show ((-1 : Int) + xs.length).toNat = xs.length - 1 by omega]
  exact h
theorem in_words {z : Str} : ∀ {ws : List Str}, inV (.str z) (ws.map V.str) = decide (z ∈ ws)
  | [] => rfl
  | x :: ws => by
    have ih := in_words (z := z) (ws := ws)
    unfold inV at ih ⊢
    rw [List.map_cons, List.any_cons, ih]
    show ((x == z) || decide (z ∈ ws)) = decide (z ∈ x :: ws)
    by_cases h : x = z
    · subst h
      rw [beq_self_eq_true, Bool.true_or]
      exact (decide_eq_true List.mem_cons_self).symm
    · rw [beq_eq_false_iff_ne.mpr h, Bool.false_or]
      by_cases q : z ∈ ws
      · rw [decide_eq_true q, decide_eq_true (List.mem_cons_of_mem _ q)]
      · rw [decide_eq_false q, decide_eq_false fun c => by rcases List.mem_cons.mp c with e | e; exact h e.symm; exact q e]
/-! ### rows of tuples -/
def Rows {α : Type} (H : Hp) (f : α → List V) : List V → List α → Prop := Paired fun v d => ∃ a, v = .ref a ∧ H a = some (.tup (f d))
section
variable {α : Type} {H H' : Hp} {f : α → List V}
theorem Rows.ex (e : Same H H') : ∀ {xs : List V} {ds : List α}, Rows H f xs ds → Rows H' f xs ds
  | _, _, .nil => .nil
  | _, _, .cons ⟨a, h1, h2⟩ t => .cons ⟨a, h1, e _ _ h2⟩ (Rows.ex e t)
theorem Rows.app : ∀ {xs ys : List V} {ds es : List α}, Rows H f xs ds → Rows H f ys es → Rows H f (xs ++ ys) (ds ++ es)
  | _, _, _, _, .nil, s => s
  | _, _, _, _, .cons r t, s => .cons r (Rows.app t s)
theorem Rows.one {a : Addr} {d : α} (h : H a = some (.tup (f d))) : Rows H f [.ref a] [d] := .cons ⟨a, rfl, h⟩ .nil
theorem Rows.len : ∀ {xs : List V} {ds : List α}, Rows H f xs ds → xs.length = ds.length
  | _, _, .nil => rfl
  | _, _, .cons _ t => congrArg Nat.succ (Rows.len t)
theorem Rows.get : ∀ {xs : List V} {ds : List α} {i : Nat} {x : V}, Rows H f xs ds → xs[i]? = some x → ∃ a d, x = .ref a ∧ ds[i]? = some d ∧ H a = some (.tup (f d))
  | _, _, i, _, .nil, e => by simp at e
  | _, _, 0, _, .cons ⟨a, h1, h2⟩ _, e => by simp at e; subst e; exact ⟨a, _, h1, rfl, h2⟩
  | _, _, i + 1, x, .cons _ t, e => by
    obtain ⟨a, d, h1, h2, h3⟩ := Rows.get (i := i) (x := x) t (by simpa using e)
    exact ⟨a, d, h1, by simpa using h2, h3⟩
theorem Rows.getD : ∀ {xs : List V} {ds : List α} {i : Nat} {d : α}, Rows H f xs ds → ds[i]? = some d → ∃ a, xs[i]? = some (.ref a) ∧ H a = some (.tup (f d))
  | _, _, i, _, .nil, e => by simp at e
  | _, _, 0, _, .cons ⟨a, h1, h2⟩ _, e => by simp at e; subst e; exact ⟨a, by rw [h1]; rfl, h2⟩
  | _, _, i + 1, x, .cons _ t, e => by
    obtain ⟨a, h1, h2⟩ := Rows.getD (i := i) t (by simpa using e)
    exact ⟨a, by simpa using h1, h2⟩
theorem Rows.rev : ∀ {xs : List V} {ds : List α}, Rows H f xs ds → Rows H f xs.reverse ds.reverse
  | _, _, .nil => .nil
  | _, _, .cons r t => by
    rw [List.reverse_cons, List.reverse_cons]
    exact Rows.app (Rows.rev t) (.cons r .nil)
theorem Rows.nil_iff {xs : List V} {ds : List α} (h : Rows H f xs ds) : xs = [] ↔ ds = [] := by
  cases h with
  | nil => simp
  | cons _ _ => simp
end
theorem Same.new {H : Hp} {p : Addr} {o : HO} (h : H p = none) : Same H (upd H p o) := fun a u e => by
  rw [upd_ne (ne_of_none e h)]
  exact e
theorem Same.mut {H H' : Hp} {p : Addr} {o : HO} (e : Same H H') (h : H p = none) : Same H (upd H' p o) := fun a u ha => by
  rw [upd_ne (ne_of_none ha h)]
  exact e a u ha
theorem Same.tup {K : PySem.W.Frag} {H H' : Hp} {a : Addr} {xs : List V} (e : Same H H') (h : SqT K H a xs) : SqT K H' a xs := by
  rcases h with (h | ⟨o, h⟩) | h
  · exact .inl (.inl (e _ _ h))
  · exact .inl (.inr ⟨o, e _ _ h⟩)
  · exact .inr h
theorem Same.both {H H' : Hp} {p : Addr} {o : HO} (e : Same H H') (h : H' p = none) : Same (upd H p o) (upd H' p o) := fun a u ha => by
  by_cases q : a = p
  · subst q
    rw [upd_same] at ha ⊢
    exact ha
  · rw [upd_ne q] at ha ⊢
    exact e a u ha
/-- the end of a turn of a comprehension that maps -/
theorem lc_end {H1 H H4 : Hp} {D : Addr} {i : Nat} {f : Nat → V} {y : V} (hn : H1 D = none) (s : Same H1 H) (hD : H D = some (.lst ((List.range i).map f))) (hi : i < sizeLine) (e : Same H H4) (ey : y = f i) :
    ∃ acc, H4 D = some (.lst acc) ∧ acc.length < sizeLine ∧ (Same H1 (upd H4 D (.lst (acc ++ [y]))) ∧ upd H4 D (.lst (acc ++ [y])) D = some (.lst ((List.range (i + 1)).map f))) := by
  refine ⟨_, e _ _ hD, ?_, Same.mut (s.trans e) hn, ?_⟩
  · rw [List.length_map, List.length_range]
    exact hi
  · rw [upd_same, List.range_succ, List.map_append, ey]
    rfl
theorem lc_0 {H1 : Hp} {D : Addr} {f : Nat → V} (hn : H1 D = none) : Same H1 (upd H1 D (.lst [])) ∧ upd H1 D (.lst []) D = some (.lst ((List.range 0).map f)) := ⟨Same.new hn, upd_same⟩
theorem r_lc {wi : TI} {g : TG} {tt : TT} {te : TE} {vs : List Nat} {σ : L2.St} {H : Hp} {Q : VK} (h : wi σ H fun J H1 => ∀ D, H1 D = none → ∃ W : Nat → Nat → Hp → Prop, (∃ m, W 0 m (upd H1 D (.lst []))) ∧ ∀ i m H, W i m H →
  (J.stop i H ∧ Q (.ref D) H) ∨ (J.go i H ∧ ∃ Nx : Hp → Prop, (∀ H', Nx H' → ∃ m', m' < m ∧ W (i + 1) m' H') ∧ ∀ x H', J.yld i H x H' → g x (wipe σ vs) H' fun σ2 H2 => wipe σ2 vs = wipe σ vs ∧ tt σ2 H2 fun b H3 =>
    if b = true then te σ2 H3 fun y H4 => ∃ acc, H4 D = some (.lst acc) ∧ acc.length < sizeLine ∧ Nx (upd H4 D (.lst (acc ++ [y]))) else Nx H3)) : tLc wi g tt te vs σ H Q := h
theorem r_iStr {te : TE} {σ : L2.St} {H : Hp} {R : It → Hp → Prop} (h : te σ H fun v H1 => ∃ x, v = .str x ∧ R (Its x) H1) : iStr te σ H R := h
theorem r_str {x : Str} {P : Str → Prop} (h : P x) : ∃ k, V.str x = .str k ∧ P k := ⟨x, rfl, h⟩
theorem r_iList {K : PySem.W.Frag} {te : TE} {σ : L2.St} {H : Hp} {R : It → Hp → Prop} (h : te σ H fun x H1 => ∃ a, x = .ref a ∧ (∃ xs, SqL K H1 a xs) ∧ R (Itl K a) H1) : iList K te σ H R := h
theorem r_iTup {K : PySem.W.Frag} {te : TE} {σ : L2.St} {H : Hp} {R : It → Hp → Prop} (h : te σ H fun x H1 => ∃ a, x = .ref a ∧ (∃ xs, SqT K H1 a xs) ∧ R (Itt K a) H1) : iTup K te σ H R := h
theorem r_il {K : PySem.W.Frag} {H : Hp} {a : Addr} {xs : List V} {P : Addr → Prop} (h : SqL K H a xs) (q : P a) : ∃ b, V.ref a = .ref b ∧ (∃ xs, SqL K H b xs) ∧ P b := ⟨a, rfl, ⟨xs, h⟩, q⟩
theorem r_it {K : PySem.W.Frag} {H : Hp} {a : Addr} {xs : List V} {P : Addr → Prop} (h : SqT K H a xs) (q : P a) : ∃ b, V.ref a = .ref b ∧ (∃ xs, SqT K H b xs) ∧ P b := ⟨a, rfl, ⟨xs, h⟩, q⟩
theorem r_iEnum {K : PySem.W.Frag} {ta : TA} {σ : L2.St} {H : Hp} {R : It → Hp → Prop} (h : ta σ H fun vs H1 => ∃ a xs, vs = [.ref a] ∧ SqL K H1 a xs ∧ R (Ite K a) H1) : iEnum K ta σ H R := h
theorem r_ie {K : PySem.W.Frag} {H : Hp} {a : Addr} {xs : List V} {P : Addr → Prop} (h : SqL K H a xs) (q : P a) : ∃ b ys, [V.ref a] = [.ref b] ∧ SqL K H b ys ∧ P b := ⟨a, xs, rfl, h, q⟩
theorem r_tYes {σ : L2.St} {H : Hp} {R : Bool → Hp → Prop} (h : R true H) : tYes σ H R := h
theorem r_for {wi : TI} {g : TG} {tb : TS} {D : Ends} {σ : L2.St} {H : Hp} (h : wi σ H fun J H1 => ∃ W : Nat → Nat → L2.St → Hp → Prop, (∃ m, W 0 m σ H1) ∧ ∀ i m σ H, W i m σ H →
  (J.stop i H ∧ D.nx σ H) ∨ (J.go i H ∧ ∃ N : L2.St → Hp → Prop, (∀ σ' H', N σ' H' → ∃ m', m' < m ∧ W (i + 1) m' σ' H') ∧ ∀ x H', J.yld i H x H' → g x σ H' fun σ2 H2 => tb { D with nx := N, ct := N, bk := D.nx } σ2 H2)) : tFor wi g tb D σ H := h
/-! ### data for == -/
def fd : V → PyData
  | .non => .none
  | .bl b => .bool b
  | .int i => .int i
  | .str x => .str x
  | _ => .none
section
variable {K : PySem.W.Frag} {H : Hp}
theorem dp_flat : ∀ {v : V}, flatV v = true → Dp K H v (fd v)
  | .non, _ => .non
  | .bl b, _ => .bl b
  | .int i, _ => .int i
  | .str x, _ => .str x
theorem dpAll_flat : ∀ {xs : List V}, xs.all flatV = true → DpAll K H xs (xs.map fd)
  | [], _ => .nil
  | v :: vs, h => by
    rw [List.all_cons, Bool.and_eq_true] at h
    exact .cons (dp_flat h.1) (dpAll_flat h.2)
theorem fd_dep : ∀ v : V, (fd v).depth = 0
  | .non => rfl
  | .bl _ => rfl
  | .int _ => rfl
  | .str _ => rfl
  | .byt _ => rfl
  | .flt _ => rfl
  | .ref _ => rfl
  | .ty _ => rfl
/-- a flat value that == may look at -/
def datV (v : V) : Bool := flatV v && (fd v).canLay0
theorem fds_lay : ∀ xs : List V, xs.all datV = true → PyData.canLayAll0 (xs.map fd) = true ∧ PyData.depthAll (xs.map fd) = 0
  | [], _ => ⟨rfl, rfl⟩
  | v :: vs, h => by
    rw [List.all_cons, Bool.and_eq_true] at h
    obtain ⟨h1, h2⟩ := fds_lay vs h.2
    have h3 : (fd v).canLay0 = true := (Bool.and_eq_true_iff.mp h.1).2
    refine ⟨?_, ?_⟩
    · rw [List.map_cons]
      show ((fd v).canLay0 && PyData.canLayAll0 (vs.map fd)) = true
      rw [h3, h1]
      rfl
    · rw [List.map_cons]
      show max (fd v).depth (PyData.depthAll (vs.map fd)) = 0
      rw [fd_dep, h2]
      rfl
theorem dat_flat {xs : List V} (h : xs.all datV = true) : xs.all flatV = true := by
  rw [List.all_eq_true] at h ⊢
  exact fun v hv => (Bool.and_eq_true_iff.mp (h v hv)).1
/-- the items of a list are data, not deep -/
def Dat (K : PySem.W.Frag) (H : Hp) (xs : List V) : Prop := ∃ ds, DpAll K H xs ds ∧ PyData.canLayAll0 ds = true ∧ PyData.depthAll ds ≤ 60
theorem Dat.flat {xs : List V} (h : xs.all datV = true) : Dat K H xs := ⟨_, dpAll_flat (dat_flat h), (fds_lay xs h).1, by rw [(fds_lay xs h).2]; decide⟩
theorem Dat.rows {α : Type} {f : α → List V} (hf : ∀ d, (f d).all datV = true) : ∀ {xs : List V} {ds : List α}, Rows H f xs ds → ∃ es, DpAll K H xs es ∧ PyData.canLayAll0 es = true ∧ PyData.depthAll es ≤ 1
  | _, _, .nil => ⟨[], .nil, rfl, by decide⟩
  | _, _, .cons (b := d) ⟨a, h1, h2⟩ t => by
    obtain ⟨es, e1, e2, e3⟩ := Dat.rows hf t
    obtain ⟨g1, g2⟩ := fds_lay (f d) (hf d)
    refine ⟨.tuple ((f d).map fd) :: es, ?_, ?_, ?_⟩
    · rw [h1]
      exact .cons (.tup (SqT.of h2) (dpAll_flat (dat_flat (hf d)))) e1
    · show (PyData.canLayAll0 ((f d).map fd) && PyData.canLayAll0 es) = true
      rw [g1, e2]
      rfl
    · show max (PyData.depthAll ((f d).map fd) + 1) (PyData.depthAll es) ≤ 1
      rw [g2]
      omega
theorem Dat.ofRows {α : Type} {f : α → List V} (hf : ∀ d, (f d).all datV = true) {xs : List V} {ds : List α} (h : Rows H f xs ds) : Dat K H xs := by
  obtain ⟨es, e1, e2, e3⟩ := Dat.rows (K := K) hf h
  exact ⟨es, e1, e2, Nat.le_trans e3 (by decide)⟩
theorem eqvAll_nil {ds : List PyData} : PyData.eqvAll ds [] = ds.isEmpty := by cases ds <;> rfl
theorem dp_emp {xs : List V} {ds : List PyData} (h : DpAll K H xs ds) : xs.isEmpty = ds.isEmpty := by cases h <;> rfl
theorem shaped_of {ds : List PyData} (h1 : PyData.canLayAll0 ds = true) (h2 : PyData.depthAll ds ≤ 60) : SeqAt.shaped (.list ds) = true := by
  show (PyData.canLayAll0 ds && decide (PyData.depthAll ds + 1 ≤ 64)) = true
  rw [h1, decide_eq_true (by omega)]
  rfl
theorem r_eqNil {a p : Addr} {xs : List V} {Q : VK} (hx : SqL K H a xs) (hp : SqL K H p []) (hD : Dat K H xs) (q : Q (.bl xs.isEmpty) H) : rEqD K (.ref a) (.ref p) H Q := by
  obtain ⟨ds, d1, d2, d3⟩ := hD
  refine ⟨.list ds, .list [], .lst hx d1, .lst hp .nil, shaped_of d2 d3, rfl, ?_⟩
  show Q (.bl (PyData.eqvAll ds [])) H
  rw [dp_emp d1] at q
  rw [eqvAll_nil]
  exact q
theorem r_neNil {a p : Addr} {xs : List V} {Q : VK} (hx : SqL K H a xs) (hp : SqL K H p []) (hD : Dat K H xs) (q : Q (.bl (!xs.isEmpty)) H) : rNeD K (.ref a) (.ref p) H Q := by
  obtain ⟨ds, d1, d2, d3⟩ := hD
  refine ⟨.list ds, .list [], .lst hx d1, .lst hp .nil, shaped_of d2 d3, rfl, ?_⟩
  show Q (.bl (!PyData.eqvAll ds [])) H
  rw [dp_emp d1] at q
  rw [eqvAll_nil]
  exact q
end
/-- the end of a turn of a comprehension that keeps some items -/
theorem lc_keep {α : Type} {H1 H H4 : Hp} {D : Addr} {i : Nat} {f : α → V} {l : List α} {p : α → Bool} {a : α} {y : V} (hn : H1 D = none) (s : Same H1 H) (hD : H D = some (.lst (((l.take i).filter p).map f))) (hi : i < sizeLine) (ha : l[i]? = some a) (e : Same H H4) (hp : p a = true) (ey : y = f a) :
    ∃ acc, H4 D = some (.lst acc) ∧ acc.length < sizeLine ∧ (Same H1 (upd H4 D (.lst (acc ++ [y]))) ∧ upd H4 D (.lst (acc ++ [y])) D = some (.lst (((l.take (i + 1)).filter p).map f))) := by
  refine ⟨_, e _ _ hD, ?_, Same.mut (s.trans e) hn, ?_⟩
  · rw [List.length_map]
    have h1 := List.length_filter_le p (l.take i)
    have h2 := List.length_take_le i l
    omega
  · rw [upd_same, List.take_succ, ha, List.filter_append, List.map_append, ey]
    simp [hp]
theorem lc_drop {α : Type} {H1 H : Hp} {D : Addr} {i : Nat} {f : α → V} {l : List α} {p : α → Bool} {a : α} (s : Same H1 H) (hD : H D = some (.lst (((l.take i).filter p).map f))) (ha : l[i]? = some a) (hp : p a = false) :
    Same H1 H ∧ H D = some (.lst (((l.take (i + 1)).filter p).map f)) := by
  refine ⟨s, ?_⟩
  rw [hD, List.take_succ, ha, List.filter_append]
  simp [hp]
theorem drop_cons {α : Type} {l : List α} {i : Nat} {a : α} (h : l[i]? = some a) : l.drop i = a :: l.drop (i + 1) := by
  obtain ⟨hi, e⟩ := List.getElem?_eq_some_iff.mp h
  rw [List.drop_eq_getElem_cons hi, e]
/-! ### frames -/
/-- tuples stay -/
def STup (H H' : Hp) : Prop := ∀ a xs, H a = some (.tup xs) → H' a = some (.tup xs)
theorem Same.stup {H H' : Hp} (s : Same H H') : STup H H' := fun a xs h => s _ _ h
theorem STup.trans {H H' H'' : Hp} (s : STup H H') (t : STup H' H'') : STup H H'' := fun a xs h => t _ _ (s _ _ h)
theorem STup.mutL {H : Hp} {p : Addr} {xs : List V} {o : HO} (h : H p = some (.lst xs)) : STup H (upd H p o) := fun a ys e => by
  by_cases q : a = p
  · subst q
    rw [h] at e
    cases e
  · rw [upd_ne q]
    exact e
theorem STup.mutI {H : Hp} {p C dx : Addr} {fs : List (Str × V)} {o : HO} (h : H p = some (.ins C dx fs)) : STup H (upd H p o) := fun a ys e => by
  by_cases q : a = p
  · subst q
    rw [h] at e
    cases e
  · rw [upd_ne q]
    exact e
theorem STup.mutD {H : Hp} {p : Addr} {kvs : List (Key × V)} {o : HO} (h : H p = some (.dK kvs)) : STup H (upd H p o) := fun a ys e => by
  by_cases q : a = p
  · subst q
    rw [h] at e
    cases e
  · rw [upd_ne q]
    exact e
section
variable {α : Type} {H H' : Hp} {f : α → List V}
theorem Rows.tup (e : STup H H') : ∀ {xs : List V} {ds : List α}, Rows H f xs ds → Rows H' f xs ds
  | _, _, .nil => .nil
  | _, _, .cons ⟨a, h1, h2⟩ t => .cons ⟨a, h1, e _ _ h2⟩ (Rows.tup e t)
theorem Rows.last {d : α} : ∀ {ds : List α} {xs : List V}, Rows H f xs (ds ++ [d]) → ∃ ys a, xs = ys ++ [.ref a] ∧ Rows H f ys ds ∧ H a = some (.tup (f d))
  | [], _, .cons ⟨a, h1, h2⟩ .nil => ⟨[], a, by rw [h1]; rfl, .nil, h2⟩
  | e :: ds, _, .cons r t => by
    obtain ⟨ys, a, h1, h2, h3⟩ := Rows.last (ds := ds) t
    exact ⟨_ :: ys, a, by rw [h1]; rfl, .cons r h2, h3⟩
end
theorem at_app {α : Type} {ys : List α} {v : α} : atI (ys ++ [v]) (-1) = some v := at_last1 (by simp)
theorem ne_of_o {H : Hp} {a b : Addr} {x y : HO} (ha : H a = some x) (hb : H b = some y) (h : x ≠ y) : a ≠ b := fun e => by
  subst e
  rw [ha] at hb
  exact h (Option.some.inj hb)
theorem ne_of_n {H : Hp} {a b : Addr} {x : HO} (ha : H a = some x) (hb : H b = none) : a ≠ b := fun e => by
  subst e
  rw [ha] at hb
  cases hb
theorem Same.free' {F H : Hp} (s : Same F H) {p : Addr} (h : H p = none) : F p = none := by
  cases e : F p with
  | none => rfl
  | some o => rw [s _ _ e] at h; cases h
theorem pe_mk0 {X : Cx} {k j : Nat} {C : Addr} {x : Str} {sp : Sp} {dvs : List V} {p pos : Pos} (c : C8.Mak X.prog X.w X.K X.mg X.base k x C sp dvs) (hr : Room j X.A) (hk : k + 1 ≤ j) (hg : Gl X x)
    (hdb : (x == ("__debug__" : Str)) = false := by decide) : PE X (.Call (.Name x p) [] [] pos) (tMake C sp dvs C8.E0 tNil) := by
  obtain ⟨f, fd, ps, ds, M, F, hm, b, d⟩ := c.ex
  exact pe_make0 M F (hr.mono hk) hg hm b d C8.pass0 hdb
section
variable {H : Hp} {Q : VK} {K : PySem.W.Frag}
theorem r_fldI {p C dx : Addr} {fs : List (Str × V)} {f : Str} {v : V} {Q : V → Prop} (h : H p = some (.ins C dx fs)) (c : Cls K C) (n : NoAttr K C f) (e : fs.lookup f = some v) (q : Q v) : ∃ a C dx fs v', V.ref p = .ref a ∧ H a = some (.ins C dx fs) ∧ Cls K C ∧ NoAttr K C f ∧ fs.lookup f = some v' ∧ Q v' := ⟨p, C, dx, fs, v, rfl, h, c, n, e, q⟩
theorem r_sfldI {p C dx : Addr} {fs : List (Str × V)} {f : Str} {P : Addr → Addr → Addr → List (Str × V) → Prop} (h : H p = some (.ins C dx fs)) (c : Cls K C) (n : NoAttr K C f) (hl : fs.length < 1000) (q : P p C dx fs) : ∃ a C dx fs, V.ref p = .ref a ∧ H a = some (.ins C dx fs) ∧ Cls K C ∧ NoAttr K C f ∧ fs.length < 1000 ∧ P a C dx fs := ⟨p, C, dx, fs, rfl, h, c, n, hl, q⟩
theorem r_methI {p C dx : Addr} {fs : List (Str × V)} {m : Str} {P : Prop} (h : H p = some (.ins C dx fs)) (e : fs.lookup m = none) (q : P) : ∃ a dx fs, V.ref p = .ref a ∧ H a = some (.ins C dx fs) ∧ fs.lookup m = none ∧ P := ⟨p, dx, fs, rfl, h, e, q⟩
theorem r_rU {g : Int → V} {i : Int} (q : Q (g i) H) : rU g (.int i) H Q := ⟨i, rfl, q⟩
theorem r_popA {l : Addr} {ys : List V} {y : V} (h : H l = some (.lst (ys ++ [y]))) (q : Q y (upd H l (.lst ys))) : rPop (.ref l) [] H Q := r_pop (y := y) h (by rw [← List.getLast?_eq_getElem?]; simp) (by rw [List.dropLast_concat]; exact q)
end
/-! ### lists of tuples that grow -/
structure Lst {α : Type} (F H : Hp) (L : Addr) (xs : List V) (f : α → List V) (ds : List α) : Prop where
  s : Same F H
  L0 : F L = none
  hL : H L = some (.lst xs)
  hR : Rows H f xs ds
section
variable {α : Type} {F H H' : Hp} {L : Addr} {xs : List V} {f : α → List V} {ds : List α}
theorem Lst.fresh (s : Same F H) (h : H L = none) : Lst F (upd H L (.lst [])) L [] f ([] : List α) := ⟨Same.trans s (Same.new h), Same.free' s h, upd_same, .nil⟩
theorem Lst.ex (B : Lst F H L xs f ds) (e : Same H H') : Lst F H' L xs f ds := ⟨Same.trans B.s e, B.L0, e _ _ B.hL, B.hR.ex e⟩
theorem Lst.new {p : Addr} {o : HO} (B : Lst F H L xs f ds) (hp : H p = none) : Lst F (upd H p o) L xs f ds := B.ex (Same.new hp)
theorem Lst.set {ys : List V} {es : List α} (B : Lst F H L xs f ds) (h : Rows H f ys es) : Lst F (upd H L (.lst ys)) L ys f es := ⟨Same.mut B.s B.L0, B.L0, upd_same, h.tup (STup.mutL B.hL)⟩
theorem Lst.other {M : Addr} {zs ys : List V} (B : Lst F H L xs f ds) (hM : H M = some (.lst zs)) (m0 : F M = none) (n : L ≠ M) : Lst F (upd H M (.lst ys)) L xs f ds := ⟨Same.mut B.s m0, B.L0, by rw [upd_ne n]; exact B.hL, B.hR.tup (STup.mutL hM)⟩
theorem Lst.cut {d : α} (B : Lst F H L xs f (ds ++ [d])) : ∃ ys a, xs = ys ++ [.ref a] ∧ H a = some (.tup (f d)) ∧ Rows H f ys ds := by
  obtain ⟨ys, a, rfl, hY, ha⟩ := B.hR.last
  exact ⟨ys, a, rfl, ha, hY⟩
theorem Lst.push {t : Addr} {d : α} (B : Lst F H L xs f ds) (ht : H t = some (.tup (f d))) : Lst F (upd H L (.lst (xs ++ [.ref t]))) L (xs ++ [.ref t]) f (ds ++ [d]) := B.set (B.hR.app (Rows.one ht))
theorem Lst.len (B : Lst F H L xs f ds) : xs.length = ds.length := B.hR.len
end
theorem r_exL {K : PySem.W.Frag} {H : Hp} {p : Addr} {xs : List V} {P : Addr → List V → Prop} (h : SqL K H p xs) (q : P p xs) : ∃ a ys, V.ref p = .ref a ∧ SqL K H a ys ∧ P a ys := ⟨p, xs, rfl, h, q⟩
theorem r_iteI {c : Bool} {i j : Int} {σ : L2.St} {H : Hp} {Q : VK} (q : Q (.int (if c = true then i else j)) H) : if c = true then tC (.int i) σ H Q else tC (.int j) σ H Q := by
  cases c with
  | true => exact q
  | false => exact q
end Sq
end
section
set_option Elab.async false
set_option linter.all false
set_option maxRecDepth 100000
set_option maxHeartbeats 4000000
/-! Properties of own classes: facts, promises, readings; a Hook that tells them. -/
namespace Sq
open PySem PySem.Spec PyProof.Rows L2
/-- the property's object, its getter -/
def pAd (K : PySem.W.Frag) (C f : Str) : Addr := He.ma K (He.ga K C) f
def gAd (K : PySem.W.Frag) (C f : Str) : Addr := match PySem.W.recIn K (pAd K C f) "property" with
  | some (.ref g :: _) => g
  | _ => 0
def fnWat (K : PySem.W.Frag) (a : Addr) : He.FnW := match K.lookup a with
  | some ⟨_, _, .func fd, _⟩ => some (fd.name, fd.qualname, fd.params, fd.body, fd.scope, fd.globals, fd.closure, fd.builtins)
  | _ => none
def okAt (K : PySem.W.Frag) (a : Addr) (d : He.DefD) : Bool := PySem.W.keepIn K (.ref a) && (match K.lookup a with
  | some ⟨_, _, .func fd, _⟩ => PySem.W.codeIn K fd.code d.qual && (He.dflB K fd.defaults (d.dvs K) && He.kwdB K fd.kwdefaults (d.kws K))
  | _ => false)
theorem funDAt {K : PySem.W.Frag} {a : Addr} {d : He.DefD} (e : fnWat K a = d.val) (c : okAt K a d = true) : ∃ fd, FunD K d.name d.qual d.params d.body d.scope (d.dvs K) (d.kws K) a fd := by
  obtain ⟨kp, c2⟩ := He.ba c
  unfold fnWat at e
  cases q : K.lookup a with
  | none =>
    rw [q] at c2
    cases c2
  | some o =>
    obtain ⟨oc, od, dt, osl⟩ := o
    rw [q] at c2 e
    cases dt with
    | func fd =>
      obtain ⟨n1, n2, n3, n4, n5, n6, n7, n8, n9, n10, n11, n12, n13, n14, n15⟩ := fd
      have e2 : (some (n1, n2, n3, n4, n5, n6, n7, n15) : He.FnW) = some (d.name, d.qual, d.params, .stmts d.body, d.scope, mainGlobals, [], builtinsNs) := e
      simp only [Option.some.injEq, Prod.mk.injEq] at e2
      obtain ⟨h1, h2, h3, h4, h5, h6, h7, h8⟩ := e2
      subst h1 h2 h3 h4 h5 h6 h7 h8
      have c3 : (PySem.W.codeIn K n13 d.qual && (He.dflB K n8 (d.dvs K) && He.kwdB K n9 (d.kws K))) = true := c2
      obtain ⟨k1, k2⟩ := He.ba c3
      obtain ⟨k3, k4⟩ := He.ba k2
      exact ⟨_, ⟨oc, od, n8, n9, n10, n11, n12, n13, n14, osl, rfl, q, k1, He.dflB_ok k3, He.kwdB_ok k4⟩, kp⟩
    | _ => cases c2
/-- a property: its class's name, its def -/
abbrev PropD : Type := Str × He.DefD
def propB (K : PySem.W.Frag) (C f : Str) : Bool := He.eqO (PySem.W.findIn K (.ref (He.ga K C)) f) (some (some (.ref (pAd K C f)))) && (He.eqO (PySem.W.specialIn K (.ref (pAd K C f)) "__get__") (some (some (.builtin "property.__get__"))) &&
  (decide (PySem.W.takesIn K (.ref (pAd K C f)) = some true) && (match PySem.W.recIn K (pAd K C f) "property" with
    | some (.ref g :: _) => decide (g = gAd K C f)
    | _ => false)))
theorem propB_ok {K : PySem.W.Frag} {C f : Str} (h : propB K C f = true) : PropOf K (He.ga K C) f (pAd K C f) (gAd K C f) := by
  obtain ⟨h1, h2⟩ := He.ba h
  obtain ⟨h3, h4⟩ := He.ba h2
  obtain ⟨h5, h6⟩ := He.ba h4
  refine ⟨He.eqO_ok h1, He.eqO_ok h3, of_decide_eq_true h5, ?_⟩
  cases e : PySem.W.recIn K (pAd K C f) "property" with
  | none => rw [e] at h6; cases h6
  | some l =>
    rw [e] at h6
    cases l with
    | nil => cases h6
    | cons v r =>
      cases v with
      | ref g =>
        have e2 : g = gAd K C f := of_decide_eq_true h6
        exact ⟨r, by rw [← e2]⟩
      | _ => cases h6
def pnB (K : PySem.W.Frag) (pn : List PropD) : Bool := pn.all fun q => propB K q.1 q.2.name && okAt K (gAd K q.1 q.2.name) q.2
/-- what is told of a law's top -/
structure Says (fa : List He.Fa) (fn : List He.DefD) (pn : List PropD) (ex : PySem.W.Frag → Bool) (K : PySem.W.Frag) : Prop where
  d : He.SaysD fa fn K
  p : pnB K pn = true
  w : (pn.map fun q => fnWat K (gAd K q.1 q.2.name)) = pn.map fun q => q.2.val
  e : ex K = true
theorem Says.prop {fa : List He.Fa} {fn : List He.DefD} {pn : List PropD} {ex : PySem.W.Frag → Bool} {K : PySem.W.Frag} (s : Says fa fn pn ex K) (i : Nat) {q : PropD} (h : pn[i]? = some q) :
    PropOf K (He.ga K q.1) q.2.name (pAd K q.1 q.2.name) (gAd K q.1 q.2.name) ∧ ∃ fd, FunD K q.2.name q.2.qual q.2.params q.2.body q.2.scope (q.2.dvs K) (q.2.kws K) (gAd K q.1 q.2.name) fd := by
  obtain ⟨h1, h2⟩ := He.ba (List.all_eq_true.mp s.p q (List.mem_of_getElem? h))
  have e : (pn.map fun q => fnWat K (gAd K q.1 q.2.name))[i]? = (pn.map fun q => q.2.val)[i]? := by rw [s.w]
  rw [List.getElem?_map, List.getElem?_map, h] at e
  exact ⟨propB_ok h1, funDAt (Option.some.inj e) h2⟩
abbrev AlP : Type := He.AlD × List He.FnW × Bool
def obsP (fa : List He.Fa) (fn : List He.DefD) (pn : List PropD) (ex : PySem.W.Frag → Bool) (K : PySem.W.Frag) : AlP := (He.obsD fa fn K, pn.map (fun q => fnWat K (gAd K q.1 q.2.name)), pnB K pn && ex K)
def valP (fn : List He.DefD) (pn : List PropD) : AlP := (He.valD fn, pn.map (fun q => q.2.val), true)
theorem says_of {fa : List He.Fa} {fn : List He.DefD} {pn : List PropD} {ex : PySem.W.Frag → Bool} {K : PySem.W.Frag} (e : obsP fa fn pn ex K = valP fn pn) : Says fa fn pn ex K := by
  have h1 := congrArg (fun z : AlP => z.1) e
  have h2 := congrArg (fun z : AlP => z.2.1) e
  have h3 := congrArg (fun z : AlP => z.2.2) e
  obtain ⟨h4, h5⟩ := He.ba (show (pnB K pn && ex K) = true from h3)
  exact ⟨h1, h4, h2, h5⟩
/-- what an object names: of a dict its values, of a def its code and defaults, of a class its own names, of a property its defs -/
def refsP (o : Obj) : List Addr := match o.data with
  | .dict es _ => es.toList.flatMap fun e => He.refV e.val
  | .func fd => He.refV fd.code ++ He.refV fd.defaults
  | .cls cd => [cd.ns]
  | .fields vs => (match o.cls with
    | .type n => if n == "property" then vs.toList.flatMap He.refV else []
    | _ => [])
  | _ => []
/-- what is reached, at most n things -/
def reachP (g : Addr → Option Obj) : Nat → List Addr → PySem.W.Frag
  | 0, _ => []
  | _ + 1, [] => []
  | n + 1, a :: r => match g a with
    | some o => (a, o) :: reachP g n (refsP o ++ r)
    | none => reachP g n r
theorem reachP_at {g : Addr → Option Obj} : ∀ {n : Nat} {as : List Addr} {a : Addr} {o : Obj}, (reachP g n as).lookup a = some o → g a = some o
  | 0, _, _, _, e => by cases e
  | _ + 1, [], _, _, e => by cases e
  | n + 1, b :: r, a, o, e => by
    unfold reachP at e
    cases hb : g b with
    | none =>
      rw [hb] at e
      exact reachP_at e
    | some ob =>
      rw [hb] at e
      have e2 : (match a == b with | true => some ob | false => (reachP g n (refsP ob ++ r)).lookup a) = some o := e
      cases q : (a == b) with
      | true =>
        rw [q] at e2
        rw [beq_iff_eq.mp q, hb, Option.some.inj e2]
      | false =>
        rw [q] at e2
        exact reachP_at e2
def obsPG (n : Nat) (fa : List He.Fa) (fn : List He.DefD) (pn : List PropD) (ex : PySem.W.Frag → Bool) (g : Addr → Option Obj) : AlP := obsP fa fn pn ex (reachP g n [mainGlobals])
def hookP (n : Nat) (fa : List He.Fa) (fn : List He.DefD) (pn : List PropD) (ex : PySem.W.Frag → Bool) : PySem.W.Hook where
  α := AlP
  obs := fun s => obsPG n fa fn pn ex s.heap.get?
  val := fun _ => valP fn pn
  says := fun _ h => ∃ K : PySem.W.Frag, K.In h ∧ Says fa fn pn ex K
  of := fun _ s e => ⟨_, fun _ _ q => reachP_at q, says_of e⟩
  keeps := fun _ _ _ ⟨K, hK, c⟩ k => ⟨K, PySem.W.Frag.In.keeps hK k, c⟩
theorem obsPG_eq {n : Nat} {fa : List He.Fa} {fn : List He.DefD} {pn : List PropD} {ex : PySem.W.Frag → Bool} {g : Addr → Option Obj} {s : Shared} (h : ∀ a, g a = s.heap.get? a) : obsPG n fa fn pn ex g = (hookP n fa fn pn ex).obs s := by
  have e : g = s.heap.get? := funext h
  rw [e] <;> rfl
/-! ### promises of properties -/
structure Prp (P : Program) (w : World) (K : PySem.W.Frag) (mg : Str → Option Value) (base : Heap) (k : Nat) (C : Addr) (f : Str) (sp : Sp) : Prop where
  ex : ∃ (p g : Addr) (fd : FuncData) (ps : List Str), Cls K C ∧ PropOf K C f p g ∧ FnOk P w K mg base C8.CX0 k g fd ps sp ∧ Binds K fd ps []
section
variable {P : Program} {w : World} {K : PySem.W.Frag} {mg : Str → Option Value} {base : Heap}
theorem prpD {f qual : Str} {C p g : Addr} {params : Arguments} {body : List Stmt} {scope : Scope} {N ps : List Str} {k : Nat} {sp : Sp} (c : Cls K C) (me : PropOf K C f p g ∧ ∃ fd, FunD K f qual params body scope [] [] g fd) (S : FnScope N ps scope)
    (hb : ∀ (kV doc pm : Value) (an : Option Addr) (cdv ct : Value) (us : List Value), us.length = ps.length → bindArgs (PySem.W.fnOf f qual params body scope .none kV doc pm an cdv ct) ⟨us, []⟩ = pure (ps.zip us))
    (len : ∀ vs H Q E, sp vs H Q E → vs.length = ps.length)
    (hbody : ∀ (cdv : Value) (A : Around) (outer : List Env) (s : Shared) (H : Hp) (vs : List V) (Q : VK) (E : XK), Room k (A.deeper (envOfC qual scope s.heap.objs.size g cdv)) → sp vs H Q E →
      ∃ t, PSs (cxOf C8.CX0 P w K mg base N qual scope g cdv A outer s H E).nox body t ∧ t { nx := fun _ H' => Q .non H', rt := Q } (start N vs) H) : Prp P w K mg base (k + 1) C f sp := by
  obtain ⟨hp, fd, F⟩ := me
  refine ⟨p, g, fd, ps, c, hp, F.ok S len fun cdv A outer s H vs Q E hr h => ?_, F.bindsN hb⟩
  obtain ⟨t, h1, h2⟩ := hbody cdv A outer s H vs Q E hr h
  exact ⟨t, h1.nox, h2⟩
theorem pe_prp {X : Cx} {k j : Nat} {C : Addr} {f : Str} {sp : Sp} {e : Expr} {ta : TE} {pos : Pos} (he : PE X e ta) (c : Prp X.prog X.w X.K X.mg X.base k C f sp) (hr : Room j X.A) (hk : k + 1 ≤ j) (hab : attributeBase e f X.env (eval e X.env) = eval e X.env) : PE X (.Attribute e f pos) (tProp C sp [] C8.E0 ta) := by
  obtain ⟨p, g, fd, ps, hc, hp, F, hb⟩ := c.ex
  exact pe_prop he hc hp F (hr.mono hk) hb .nil C8.pass0 hab
theorem r_prop {C : Addr} {sp : Sp} {E : XK} {ta : TE} {σ : L2.St} {H : Hp} {Q : VK} (h : ta σ H fun x H1 => ∃ a dx fs, x = .ref a ∧ H1 a = some (.ins C dx fs) ∧ sp [.ref a] H1 Q E) : tProp C sp [] E ta σ H Q := h
theorem r_insI {H : Hp} {p C dx : Addr} {fs : List (Str × V)} {P : Addr → Prop} (h : H p = some (.ins C dx fs)) (q : P p) : ∃ a dx fs, V.ref p = .ref a ∧ H a = some (.ins C dx fs) ∧ P a := ⟨p, dx, fs, rfl, h, q⟩
/-- a tuple of targets within a comprehension -/
theorem pg_tupK {X : Cx} {K : PySem.W.Frag} {es : List Expr} {k : Nat} {t : TGs} {n : Nat} {pos : Pos} (hK : X.K = K) (hc : X.calm = true) (h : PGs X es t) (hn : (assignEach es X.env).length = n := by rfl) (hst : (assignEach es X.env).findIdx? (·.1) = none := by rfl) : PG X (.Tuple es k pos) (gTup K n t) := by
  subst hK
  exact pg_tup hc h hn hst
end
/-! ### rules whose K is a letter of its own (within comprehensions) -/
section
variable {X : Cx} {K : PySem.W.Frag}
theorem ix_tupK (h : X.K = K) : IxR X (rIxT K) := by subst h; exact ix_tup
theorem ix_listK (h : X.K = K) : IxR X (rIxL K) := by subst h; exact ix_list
theorem op_in_seqK (h : X.K = K) : OpR X (compareOp .In) (rIn K false) := by subst h; exact op_in_seq
theorem op_notIn_seqK (h : X.K = K) : OpR X (compareOp .NotIn) (rIn K true) := by subst h; exact op_notIn_seq
theorem cq_lenK (h : X.K = K) : CallR X (.builtin "len") (rLenQ K) := by subst h; exact cq_len
theorem pi_listK {e tgt : Expr} {te : TE} (h : X.K = K) (he : PE X e te) : L2.PI X tgt e (iList K te) := by subst h; exact pi_list he
theorem pi_tupK {e tgt : Expr} {te : TE} (h : X.K = K) (he : PE X e te) : L2.PI X tgt e (iTup K te) := by subst h; exact pi_tup he
theorem pe_joinK {o e : Expr} {to te : TE} {apos pos : Pos} (h : X.K = K) (ho : PE X o to) (he : PE X e te) (hs : starEach [e] X.env = [(false, eval e X.env)] := by rfl) (hbase : attributeBase o "join" X.env (eval o X.env) = eval o X.env := by rfl) (hline : (apos.endLine == pos.line) = true := by rfl) :
    PE X (.Call (.Attribute o "join" apos) [e] [] pos) (tM1 (fun x xs H Q => ∃ a p, ∃ ys : List Str, x = .str a ∧ xs = [.ref p] ∧ (SqL K H p (ys.map V.str) ∨ SqT K H p (ys.map V.str)) ∧
      (ys.map (·.length)).sum + ys.length * a.length ≤ 16777216 ∧ Q (.str (Txt.join a ys)) H) to te) := by subst h; exact pe_join ho he hs hbase hline
end
end Sq
end
section
set_option Elab.async false
set_option linter.all false
set_option maxRecDepth 100000
set_option maxHeartbeats 4000000
namespace Sq
open PySem PySem.Spec PyProof.Rows L2
local macro_rules | `(tactic| walk_at "cx") => `(tactic| try dsimp only [cxOf, Cx.nox, Cx.wish])
local macro_rules | `(tactic| walk_at "h0") => `(tactic| first
  | assumption
  | with_reducible exact upd_same
  | with_reducible exact SqT.of upd_same
  | with_reducible exact SqL.of upd_same
  | with_reducible exact SqT.of (by assumption)
  | with_reducible exact SqL.of (by assumption))
local macro_rules | `(tactic| walk_at "h1") => `(tactic| first
  | walk_at "h0"
  | with_reducible exact Same.tup (by assumption) (by assumption)
  | with_reducible exact Same.seq (by assumption) (by assumption)
  | with_reducible exact Same.tup (Same.mut (by assumption) (by assumption)) (by assumption)
  | with_reducible exact Same.seq (Same.mut (by assumption) (by assumption)) (by assumption)
  | with_reducible exact Same.tup (Same.new (by assumption)) (by walk_at "h0")
  | with_reducible exact Same.seq (Same.new (by assumption)) (by walk_at "h0"))
local macro_rules | `(tactic| walk_at "hp") => `(tactic| first
  | walk_at "h1"
  | with_reducible exact Same.tup (Same.new (by assumption)) (by walk_at "h1")
  | with_reducible exact Same.seq (Same.new (by assumption)) (by walk_at "h1"))
local macro_rules | `(tactic| walk_at "r1") => `(tactic| first
  | with_reducible refine r_seq ?_
  | with_reducible refine r_next ?_
  | with_reducible refine r_nx ?_
  | with_reducible refine r_rt ?_
  | ((with_reducible refine' r_var ?e1 ?_); (case e1 => rfl))
  | with_reducible refine r_c ?_
  | with_reducible refine r_op ?_
  | with_reducible refine r_asg ?_
  | with_reducible refine r_gname ?_
  | with_reducible refine r_fld ?_
  | with_reducible refine r_sfld ?_
  | with_reducible refine r_gfld ?_
  | with_reducible refine r_call0 ?_
  | with_reducible refine r_call ?_
  | with_reducible refine r_meth0 ?_
  | with_reducible refine r_make0 ?_
  | with_reducible refine r_nil ?_
  | with_reducible refine r_cons ?_
  | with_reducible refine r_cb ?_
  | with_reducible refine r_tup ?_
  | with_reducible refine r_lst ?_
  | with_reducible refine r_test ?_
  | with_reducible refine r_B ?_
  | with_reducible refine r_bl ?_
  | with_reducible refine r_int ?_
  | with_reducible refine r_if ?_
  | with_reducible refine r_ifE ?_
  | with_reducible refine r_and ?_
  | with_reducible refine r_or ?_
  | with_reducible refine r_not ?_
  | with_reducible refine r_andV ?_
  | with_reducible refine r_orV ?_
  | with_reducible refine r_notV ?_
  | with_reducible refine r_ret ?_
  | with_reducible refine r_retN ?_
  | with_reducible refine r_drop ?_
  | with_reducible refine r_par ?_
  | with_reducible refine r_par3 ?_
  | with_reducible refine r_gcons ?_
  | with_reducible refine r_gnil ?_
  | with_reducible refine r_brk ?_
  | with_reducible refine r_cont ?_
  | ((with_reducible refine' r_aug ?e1 ?_); (case e1 => rfl))
  | with_reducible refine r_un ?_
  | with_reducible refine r_rU ?_
  | with_reducible refine r_chain ?_
  | with_reducible refine r_star ?_
  | with_reducible refine r_bm ?_
  | with_reducible refine r_bm0 ?_
  | with_reducible refine r_m1 ?_
  | with_reducible refine r_sl ?_
  | with_reducible refine r_noPart ?_
  | with_reducible refine r_part ?_
  | with_reducible refine r_revL ?_
  | with_reducible refine r_dget ?_
  | ((with_reducible refine' r_gtup ?e0 ?e1 ?_); (case e0 => walk_at "hp"); (case e1 => rfl))
  | with_reducible refine r_two ?_
  | with_reducible refine r_three ?_
  | ((with_reducible refine' r_lenS ?e0 ?_); (case e0 => walk_at "hp"))
  | ((with_reducible refine' r_lenT ?e0 ?_); (case e0 => walk_at "hp"))
  | ((with_reducible refine' r_lenZ ?e0 ?_); (case e0 => assumption))
  | with_reducible refine r_isN ?_
  | with_reducible refine r_notN ?_
  | ((with_reducible refine' r_addZ ?e0 ?_); (case e0 => assumption))
  | ((with_reducible refine' r_listO ?e0 ?_); (case e0 => walk_at "hp"))
  | ((with_reducible refine' r_tupO ?e0 ?_); (case e0 => walk_at "hp"))
  | with_reducible refine r_int1 ?_
  | with_reducible refine r_int1b ?_
  | ((with_reducible refine' r_strI ?e0 ?_); (case e0 => assumption))
  | with_reducible refine r_max ?_
  | with_reducible refine r_min ?_
  | with_reducible refine r_abs ?_
  | ((with_reducible refine' r_dictC ?e0 ?_); (case e0 => walk_at "hp"))
  | ((with_reducible refine' r_tyL ?e0 ?_); (case e0 => walk_at "hp"))
  | ((with_reducible refine' r_append ?e0 ?e1 ?_); (case e0 => walk_at "hp"); (case e1 => first | assumption | exact Nat.lt_of_lt_of_le (Nat.lt_of_succ_le (Nat.le_of_ble_eq_true (m := 1000) rfl)) (by decide)))
  | ((with_reducible refine' r_starL ?e0 ?_); (case e0 => walk_at "hp"))
  | ((with_reducible refine' r_starT ?e0 ?_); (case e0 => walk_at "hp"))
  | ((with_reducible refine' r_sz ?e0 ?_); (case e0 => rfl))
  | with_reducible refine fun p (hp : _ = none) => ?_
  | ((with_reducible refine' r_slT ?e0 ?e1 ?_); (case e0 => walk_at "hp"); (case e1 => rfl))
  | ((with_reducible refine' r_slL ?e0 ?_); (case e0 => walk_at "hp"))
  | with_reducible refine r_lc ?_
  | with_reducible refine r_iStr ?_
  | with_reducible refine r_str ?_
  | with_reducible refine r_iList ?_
  | with_reducible refine r_iTup ?_
  | with_reducible refine r_iEnum ?_
  | ((with_reducible refine' r_il ?e0 ?_); (case e0 => walk_at "hp"))
  | ((with_reducible refine' r_it ?e0 ?_); (case e0 => walk_at "hp"))
  | ((with_reducible refine' r_ie ?e0 ?_); (case e0 => walk_at "hp"))
  | with_reducible refine r_tYes ?_
  | with_reducible refine r_for ?_
  | with_reducible refine r_dget2 ?_
  | with_reducible refine r_daug ?_
  | with_reducible refine r_I0 ?_
  | with_reducible refine r_ip ?_
  | with_reducible refine r_rAdd ?_
  | ((with_reducible refine' r_eq ?e1 ?_); (case e1 => rfl))
  | ((with_reducible refine' r_ne ?e1 ?_); (case e1 => rfl))
  | ((with_reducible refine' r_ixT ?e1 ?e2 ?_); (case e1 => walk_at "hp"); (case e2 => rfl))
  | ((with_reducible refine' r_ixL ?e1 ?e2 ?_); (case e1 => walk_at "hp"); (case e2 => first | rfl | assumption))
  | ((with_reducible refine' r_inT ?e1 ?e2 ?e3 ?_); (case e1 => walk_at "hp"); (case e2 => rfl); (case e3 => first | rfl | assumption))
  | ((with_reducible refine' r_inL ?e1 ?e2 ?e3 ?_); (case e1 => walk_at "hp"); (case e2 => rfl); (case e3 => first | rfl | assumption))
  | ((with_reducible refine' r_niL ?e1 ?e2 ?e3 ?_); (case e1 => walk_at "hp"); (case e2 => rfl); (case e3 => first | rfl | assumption))
  | ((with_reducible refine' r_niT ?e1 ?e2 ?e3 ?_); (case e1 => walk_at "hp"); (case e2 => rfl); (case e3 => first | rfl | assumption))
  | ((with_reducible refine' r_ifT ?e1 ?_); (case e1 => first | rfl | assumption))
  | ((with_reducible refine' r_ifF ?e1 ?_); (case e1 => first | rfl | assumption)))
local macro_rules | `(tactic| walk_at "rd") => `(tactic| repeat walk_at "r1")

def top (i : Nat) : Stmt := PySem.Challenge.pw_squeezedkeyer_k86_whole_steps_and_runs.main.body.getD i (.Pass ⟨0, 0, 0, 0⟩)
abbrev s_is_integer : Stmt := top 14
theorem sc_is_integer : FnScope ["value", "least"] ["value", "least"] (defScope s_is_integer) := ⟨rfl, rfl, rfl, by decide +kernel, rfl, by decide +kernel, by decide +kernel⟩
def d_is_integer : He.DefD := ⟨("is_integer", none), "is_integer", "is_integer", defArgs s_is_integer, defBody s_is_integer, defScope s_is_integer, [.non], []⟩
abbrev s_is_one_of : Stmt := top 15
theorem sc_is_one_of : FnScope ["value", "words"] ["value", "words"] (defScope s_is_one_of) := ⟨rfl, rfl, rfl, by decide +kernel, rfl, by decide +kernel, by decide +kernel⟩
def d_is_one_of : He.DefD := ⟨("is_one_of", none), "is_one_of", "is_one_of", defArgs s_is_one_of, defBody s_is_one_of, defScope s_is_one_of, [], []⟩
abbrev s_rules_flags : Stmt := top 16
theorem sc_rules_flags : FnScope ["value", "found", "item"] ["value"] (defScope s_rules_flags) := ⟨rfl, rfl, rfl, by decide +kernel, rfl, by decide +kernel, by decide +kernel⟩
def d_rules_flags : He.DefD := ⟨("rules_flags", none), "rules_flags", "rules_flags", defArgs s_rules_flags, defBody s_rules_flags, defScope s_rules_flags, [], []⟩
abbrev s_require_rules : Stmt := top 17
theorem sc_require_rules : FnScope ["value", "flags"] ["value"] (defScope s_require_rules) := ⟨rfl, rfl, rfl, by decide +kernel, rfl, by decide +kernel, by decide +kernel⟩
def d_require_rules : He.DefD := ⟨("require_rules", none), "require_rules", "require_rules", defArgs s_require_rules, defBody s_require_rules, defScope s_require_rules, [], []⟩
abbrev s_is_event : Stmt := top 18
theorem sc_is_event : FnScope ["value"] ["value"] (defScope s_is_event) := ⟨rfl, rfl, rfl, by decide +kernel, rfl, by decide +kernel, by decide +kernel⟩
def d_is_event : He.DefD := ⟨("is_event", none), "is_event", "is_event", defArgs s_is_event, defBody s_is_event, defScope s_is_event, [], []⟩
abbrev s_fault_of_record : Stmt := top 19
theorem sc_fault_of_record : FnScope ["value", "down", "last", "index", "item", "tick", "lever", "is_down", "other"] ["value"] (defScope s_fault_of_record) := ⟨rfl, rfl, rfl, by decide +kernel, rfl, by decide +kernel, by decide +kernel⟩
def d_fault_of_record : He.DefD := ⟨("fault_of_record", none), "fault_of_record", "fault_of_record", defArgs s_fault_of_record, defBody s_fault_of_record, defScope s_fault_of_record, [], []⟩
abbrev s_require_record : Stmt := top 20
theorem sc_require_record : FnScope ["value", "index"] ["value"] (defScope s_require_record) := ⟨rfl, rfl, rfl, by decide +kernel, rfl, by decide +kernel, by decide +kernel⟩
def d_require_record : He.DefD := ⟨("require_record", none), "require_record", "require_record", defArgs s_require_record, defBody s_require_record, defScope s_require_record, [], []⟩
abbrev s_require_lever : Stmt := top 21
theorem sc_require_lever : FnScope ["value"] ["value"] (defScope s_require_lever) := ⟨rfl, rfl, rfl, by decide +kernel, rfl, by decide +kernel, by decide +kernel⟩
def d_require_lever : He.DefD := ⟨("require_lever", none), "require_lever", "require_lever", defArgs s_require_lever, defBody s_require_lever, defScope s_require_lever, [], []⟩
abbrev s_require_index : Stmt := top 22
theorem sc_require_index : FnScope ["value", "many"] ["value", "many"] (defScope s_require_index) := ⟨rfl, rfl, rfl, by decide +kernel, rfl, by decide +kernel, by decide +kernel⟩
def d_require_index : He.DefD := ⟨("require_index", none), "require_index", "require_index", defArgs s_require_index, defBody s_require_index, defScope s_require_index, [], []⟩
abbrev s_length_of : Stmt := top 23
theorem sc_length_of : FnScope ["rules", "kind"] ["rules", "kind"] (defScope s_length_of) := ⟨rfl, rfl, rfl, by decide +kernel, rfl, by decide +kernel, by decide +kernel⟩
def d_length_of : He.DefD := ⟨("length_of", none), "length_of", "length_of", defArgs s_length_of, defBody s_length_of, defScope s_length_of, [], []⟩
abbrev s_period_of : Stmt := top 24
theorem sc_period_of : FnScope ["rules", "kind"] ["rules", "kind"] (defScope s_period_of) := ⟨rfl, rfl, rfl, by decide +kernel, rfl, by decide +kernel, by decide +kernel⟩
def d_period_of : He.DefD := ⟨("period_of", none), "period_of", "period_of", defArgs s_period_of, defBody s_period_of, defScope s_period_of, [], []⟩
abbrev s_word_period : Stmt := top 25
theorem sc_word_period : FnScope ["rules", "word", "kind"] ["rules", "word"] (defScope s_word_period) := ⟨rfl, rfl, rfl, by decide +kernel, rfl, by decide +kernel, by decide +kernel⟩
def d_word_period : He.DefD := ⟨("word_period", none), "word_period", "word_period", defArgs s_word_period, defBody s_word_period, defScope s_word_period, [], []⟩
abbrev s_other_of : Stmt := top 26
theorem sc_other_of : FnScope ["kind"] ["kind"] (defScope s_other_of) := ⟨rfl, rfl, rfl, by decide +kernel, rfl, by decide +kernel, by decide +kernel⟩
def d_other_of : He.DefD := ⟨("other_of", none), "other_of", "other_of", defArgs s_other_of, defBody s_other_of, defScope s_other_of, [], []⟩
abbrev s_Blocks_init : Stmt := inClass (top 29) 0
theorem sc_Blocks_init : FnScope ["self"] ["self"] (defScope s_Blocks_init) := ⟨rfl, rfl, rfl, by decide +kernel, rfl, by decide +kernel, by decide +kernel⟩
def d_Blocks_init : He.DefD := ⟨("Blocks", some "__init__"), "__init__", "Blocks.__init__", defArgs s_Blocks_init, defBody s_Blocks_init, defScope s_Blocks_init, [], []⟩
abbrev s_Blocks_last_kind : Stmt := inClass (top 29) 1
theorem sc_Blocks_last_kind : FnScope ["self", "kind", "many", "is_alternating"] ["self"] (defScope s_Blocks_last_kind) := ⟨rfl, rfl, rfl, by decide +kernel, rfl, by decide +kernel, by decide +kernel⟩
def d_Blocks_last_kind : He.DefD := ⟨("Blocks", some "last_kind"), "last_kind", "Blocks.last_kind", defArgs s_Blocks_last_kind, defBody s_Blocks_last_kind, defScope s_Blocks_last_kind, [], []⟩
abbrev s_Blocks_put_alternating : Stmt := inClass (top 29) 2
theorem sc_Blocks_put_alternating : FnScope ["self", "kind", "many", "first", "before", "is_alternating"] ["self", "kind", "many"] (defScope s_Blocks_put_alternating) := ⟨rfl, rfl, rfl, by decide +kernel, rfl, by decide +kernel, by decide +kernel⟩
def d_Blocks_put_alternating : He.DefD := ⟨("Blocks", some "put_alternating"), "put_alternating", "Blocks.put_alternating", defArgs s_Blocks_put_alternating, defBody s_Blocks_put_alternating, defScope s_Blocks_put_alternating, [], []⟩
abbrev s_Blocks_put_same : Stmt := inClass (top 29) 3
theorem sc_Blocks_put_same : FnScope ["self", "kind", "many", "first", "before", "is_alternating"] ["self", "kind", "many"] (defScope s_Blocks_put_same) := ⟨rfl, rfl, rfl, by decide +kernel, rfl, by decide +kernel, by decide +kernel⟩
def d_Blocks_put_same : He.DefD := ⟨("Blocks", some "put_same"), "put_same", "Blocks.put_same", defArgs s_Blocks_put_same, defBody s_Blocks_put_same, defScope s_Blocks_put_same, [], []⟩
abbrev s_Blocks_put_in : Stmt := inClass (top 29) 4
theorem sc_Blocks_put_in : FnScope ["self", "word", "times"] ["self", "word", "times"] (defScope s_Blocks_put_in) := ⟨rfl, rfl, rfl, by decide +kernel, rfl, by decide +kernel, by decide +kernel⟩
def d_Blocks_put_in : He.DefD := ⟨("Blocks", some "put_in"), "put_in", "Blocks.put_in", defArgs s_Blocks_put_in, defBody s_Blocks_put_in, defScope s_Blocks_put_in, [], []⟩
abbrev s_Blocks_tidy : Stmt := inClass (top 29) 5
theorem sc_Blocks_tidy : FnScope ["self", "found", "left", "kind", "many", "is_alternating", "ahead", "taken", "after", "size", "is_next", "more"] ["self"] (defScope s_Blocks_tidy) := ⟨rfl, rfl, rfl, by decide +kernel, rfl, by decide +kernel, by decide +kernel⟩
def d_Blocks_tidy : He.DefD := ⟨("Blocks", some "tidy"), "tidy", "Blocks.tidy", defArgs s_Blocks_tidy, defBody s_Blocks_tidy, defScope s_Blocks_tidy, [], []⟩
abbrev s_tidy_kinds : Stmt := top 30
theorem sc_tidy_kinds : FnScope ["kinds", "blocks", "word", "times"] ["kinds"] (defScope s_tidy_kinds) := ⟨rfl, rfl, rfl, by decide +kernel, rfl, by decide +kernel, by decide +kernel⟩
def d_tidy_kinds : He.DefD := ⟨("tidy_kinds", none), "tidy_kinds", "tidy_kinds", defArgs s_tidy_kinds, defBody s_tidy_kinds, defScope s_tidy_kinds, [], []⟩
abbrev s_tidy_runs : Stmt := top 31
theorem sc_tidy_runs : FnScope ["rules", "runs", "found", "groups", "last", "begin", "word", "times", "kinds", "at"] ["rules", "runs"] (defScope s_tidy_runs) := ⟨rfl, rfl, rfl, by decide +kernel, rfl, by decide +kernel, by decide +kernel⟩
def d_tidy_runs : He.DefD := ⟨("tidy_runs", none), "tidy_runs", "tidy_runs", defArgs s_tidy_runs, defBody s_tidy_runs, defScope s_tidy_runs, [], []⟩
abbrev s_can_hear : Stmt := top 34
theorem sc_can_hear : FnScope ["rules", "kind"] ["rules", "kind"] (defScope s_can_hear) := ⟨rfl, rfl, rfl, by decide +kernel, rfl, by decide +kernel, by decide +kernel⟩
def d_can_hear : He.DefD := ⟨("can_hear", none), "can_hear", "can_hear", defArgs s_can_hear, defBody s_can_hear, defScope s_can_hear, [], []⟩
abbrev s_outcome : Stmt := top 35
theorem sc_outcome : FnScope ["rules", "kind", "down", "is_other", "is_own", "other", "both"] ["rules", "kind", "down", "is_other", "is_own"] (defScope s_outcome) := ⟨rfl, rfl, rfl, by decide +kernel, rfl, by decide +kernel, by decide +kernel⟩
def d_outcome : He.DefD := ⟨("outcome", none), "outcome", "outcome", defArgs s_outcome, defBody s_outcome, defScope s_outcome, [], []⟩
abbrev s_State_init : Stmt := inClass (top 36) 0
theorem sc_State_init : FnScope ["self", "rules", "is_logged", "word"] ["self", "rules", "is_logged"] (defScope s_State_init) := ⟨rfl, rfl, rfl, by decide +kernel, rfl, by decide +kernel, by decide +kernel⟩
def d_State_init : He.DefD := ⟨("State", some "__init__"), "__init__", "State.__init__", defArgs s_State_init, defBody s_State_init, defScope s_State_init, [], []⟩
abbrev s_State_note : Stmt := inClass (top 36) 2
theorem sc_State_note : FnScope ["self", "tick", "word"] ["self", "tick", "word"] (defScope s_State_note) := ⟨rfl, rfl, rfl, by decide +kernel, rfl, by decide +kernel, by decide +kernel⟩
def d_State_note : He.DefD := ⟨("State", some "note"), "note", "State.note", defArgs s_State_note, defBody s_State_note, defScope s_State_note, [], []⟩
abbrev s_State_note_other : Stmt := inClass (top 36) 3
theorem sc_State_note_other : FnScope ["self", "tick"] ["self", "tick"] (defScope s_State_note_other) := ⟨rfl, rfl, rfl, by decide +kernel, rfl, by decide +kernel, by decide +kernel⟩
def d_State_note_other : He.DefD := ⟨("State", some "note_other"), "note_other", "State.note_other", defArgs s_State_note_other, defBody s_State_note_other, defScope s_State_note_other, [], []⟩
abbrev s_State_is_held_other : Stmt := inClass (top 36) 4
theorem sc_State_is_held_other : FnScope ["self", "kind"] ["self", "kind"] (defScope s_State_is_held_other) := ⟨rfl, rfl, rfl, by decide +kernel, rfl, by decide +kernel, by decide +kernel⟩
def d_State_is_held_other : He.DefD := ⟨("State", some "is_held_other"), "is_held_other", "State.is_held_other", defArgs s_State_is_held_other, defBody s_State_is_held_other, defScope s_State_is_held_other, [], []⟩
abbrev s_State_start : Stmt := inClass (top 36) 5
theorem sc_State_start : FnScope ["self", "tick", "kind"] ["self", "tick", "kind"] (defScope s_State_start) := ⟨rfl, rfl, rfl, by decide +kernel, rfl, by decide +kernel, by decide +kernel⟩
def d_State_start : He.DefD := ⟨("State", some "start"), "start", "State.start", defArgs s_State_start, defBody s_State_start, defScope s_State_start, [], []⟩
abbrev s_State_hear : Stmt := inClass (top 36) 6
theorem sc_State_hear : FnScope ["self", "tick"] ["self", "tick"] (defScope s_State_hear) := ⟨rfl, rfl, rfl, by decide +kernel, rfl, by decide +kernel, by decide +kernel⟩
def d_State_hear : He.DefD := ⟨("State", some "hear"), "hear", "State.hear", defArgs s_State_hear, defBody s_State_hear, defScope s_State_hear, [], []⟩
abbrev s_State_decide : Stmt := inClass (top 36) 7
theorem sc_State_decide : FnScope ["self", "tick", "kind"] ["self", "tick"] (defScope s_State_decide) := ⟨rfl, rfl, rfl, by decide +kernel, rfl, by decide +kernel, by decide +kernel⟩
def d_State_decide : He.DefD := ⟨("State", some "decide"), "decide", "State.decide", defArgs s_State_decide, defBody s_State_decide, defScope s_State_decide, [], []⟩
abbrev s_State_following : Stmt := inClass (top 36) 8
theorem sc_State_following : FnScope ["self", "kind"] ["self", "kind"] (defScope s_State_following) := ⟨rfl, rfl, rfl, by decide +kernel, rfl, by decide +kernel, by decide +kernel⟩
def d_State_following : He.DefD := ⟨("State", some "following"), "following", "State.following", defArgs s_State_following, defBody s_State_following, defScope s_State_following, [], []⟩
abbrev s_State_skip : Stmt := inClass (top 36) 9
theorem sc_State_skip : FnScope ["self", "word", "times", "kind", "period"] ["self", "word", "times"] (defScope s_State_skip) := ⟨rfl, rfl, rfl, by decide +kernel, rfl, by decide +kernel, by decide +kernel⟩
def d_State_skip : He.DefD := ⟨("State", some "skip"), "skip", "State.skip", defArgs s_State_skip, defBody s_State_skip, defScope s_State_skip, [], []⟩
abbrev s_State_jump : Stmt := inClass (top 36) 10
theorem sc_State_jump : FnScope ["self", "tick", "kind", "rules", "later", "word", "times", "each"] ["self", "tick"] (defScope s_State_jump) := ⟨rfl, rfl, rfl, by decide +kernel, rfl, by decide +kernel, by decide +kernel⟩
def d_State_jump : He.DefD := ⟨("State", some "jump"), "jump", "State.jump", defArgs s_State_jump, defBody s_State_jump, defScope s_State_jump, [], []⟩
abbrev s_State_advance : Stmt := inClass (top 36) 11
theorem sc_State_advance : FnScope ["self", "tick", "rules", "kind", "heard_at", "decision"] ["self", "tick"] (defScope s_State_advance) := ⟨rfl, rfl, rfl, by decide +kernel, rfl, by decide +kernel, by decide +kernel⟩
def d_State_advance : He.DefD := ⟨("State", some "advance"), "advance", "State.advance", defArgs s_State_advance, defBody s_State_advance, defScope s_State_advance, [], []⟩
abbrev s_State_happen : Stmt := inClass (top 36) 12
theorem sc_State_happen : FnScope ["self", "tick", "lever", "is_down", "other"] ["self", "tick", "lever", "is_down"] (defScope s_State_happen) := ⟨rfl, rfl, rfl, by decide +kernel, rfl, by decide +kernel, by decide +kernel⟩
def d_State_happen : He.DefD := ⟨("State", some "happen"), "happen", "State.happen", defArgs s_State_happen, defBody s_State_happen, defScope s_State_happen, [], []⟩
abbrev s_State_finish : Stmt := inClass (top 36) 13
theorem sc_State_finish : FnScope ["self"] ["self"] (defScope s_State_finish) := ⟨rfl, rfl, rfl, by decide +kernel, rfl, by decide +kernel, by decide +kernel⟩
def d_State_finish : He.DefD := ⟨("State", some "finish"), "finish", "State.finish", defArgs s_State_finish, defBody s_State_finish, defScope s_State_finish, [], []⟩
abbrev s_State_tidy : Stmt := inClass (top 36) 15
theorem sc_State_tidy : FnScope ["self"] ["self"] (defScope s_State_tidy) := ⟨rfl, rfl, rfl, by decide +kernel, rfl, by decide +kernel, by decide +kernel⟩
def d_State_tidy : He.DefD := ⟨("State", some "tidy"), "tidy", "State.tidy", defArgs s_State_tidy, defBody s_State_tidy, defScope s_State_tidy, [], []⟩
abbrev s_state_behind : Stmt := top 37
theorem sc_state_behind : FnScope ["rules", "record", "is_logged", "found", "tick", "lever", "is_down"] ["rules", "record", "is_logged"] (defScope s_state_behind) := ⟨rfl, rfl, rfl, by decide +kernel, rfl, by decide +kernel, by decide +kernel⟩
def d_state_behind : He.DefD := ⟨("state_behind", none), "state_behind", "state_behind", defArgs s_state_behind, defBody s_state_behind, defScope s_state_behind, [], []⟩
abbrev s_counts_of : Stmt := top 40
theorem sc_counts_of : FnScope ["rules", "record"] ["rules", "record"] (defScope s_counts_of) := ⟨rfl, rfl, rfl, by decide +kernel, rfl, by decide +kernel, by decide +kernel⟩
def d_counts_of : He.DefD := ⟨("counts_of", none), "counts_of", "counts_of", defArgs s_counts_of, defBody s_counts_of, defScope s_counts_of, [], []⟩
abbrev s_steps : Stmt := top 41
theorem sc_steps : FnScope ["rules", "record"] ["rules", "record"] (defScope s_steps) := ⟨rfl, rfl, rfl, by decide +kernel, rfl, by decide +kernel, by decide +kernel⟩
def d_steps : He.DefD := ⟨("steps", none), "steps", "steps", defArgs s_steps, defBody s_steps, defScope s_steps, [], []⟩
abbrev s_count_steps : Stmt := top 42
theorem sc_count_steps : FnScope ["rules", "record"] ["rules", "record"] (defScope s_count_steps) := ⟨rfl, rfl, rfl, by decide +kernel, rfl, by decide +kernel, by decide +kernel⟩
def d_count_steps : He.DefD := ⟨("count_steps", none), "count_steps", "count_steps", defArgs s_count_steps, defBody s_count_steps, defScope s_count_steps, [], []⟩
abbrev s_count_word : Stmt := top 43
theorem sc_count_word : FnScope ["rules", "record", "word", "counts"] ["rules", "record", "word"] (defScope s_count_word) := ⟨rfl, rfl, rfl, by decide +kernel, rfl, by decide +kernel, by decide +kernel⟩
def d_count_word : He.DefD := ⟨("count_word", none), "count_word", "count_word", defArgs s_count_word, defBody s_count_word, defScope s_count_word, [], []⟩
abbrev s_all_runs : Stmt := top 45
theorem sc_all_runs : FnScope ["rules", "record"] ["rules", "record"] (defScope s_all_runs) := ⟨rfl, rfl, rfl, by decide +kernel, rfl, by decide +kernel, by decide +kernel⟩
def d_all_runs : He.DefD := ⟨("all_runs", none), "all_runs", "all_runs", defArgs s_all_runs, defBody s_all_runs, defScope s_all_runs, [], []⟩
abbrev s_all_kinds : Stmt := top 46
theorem sc_all_kinds : FnScope ["rules", "record", "begin", "word", "times"] ["rules", "record"] (defScope s_all_kinds) := ⟨rfl, rfl, rfl, by decide +kernel, rfl, by decide +kernel, by decide +kernel⟩
def d_all_kinds : He.DefD := ⟨("all_kinds", none), "all_kinds", "all_kinds", defArgs s_all_kinds, defBody s_all_kinds, defScope s_all_kinds, [], []⟩
abbrev s_many_marks : Stmt := top 47
theorem sc_many_marks : FnScope ["kinds", "word", "times"] ["kinds"] (defScope s_many_marks) := ⟨rfl, rfl, rfl, by decide +kernel, rfl, by decide +kernel, by decide +kernel⟩
def d_many_marks : He.DefD := ⟨("many_marks", none), "many_marks", "many_marks", defArgs s_many_marks, defBody s_many_marks, defScope s_many_marks, [], []⟩
abbrev s_mark_of : Stmt := top 48
theorem sc_mark_of : FnScope ["rules", "run", "index", "begin", "word", "times", "at", "kind"] ["rules", "run", "index"] (defScope s_mark_of) := ⟨rfl, rfl, rfl, by decide +kernel, rfl, by decide +kernel, by decide +kernel⟩
def d_mark_of : He.DefD := ⟨("mark_of", none), "mark_of", "mark_of", defArgs s_mark_of, defBody s_mark_of, defScope s_mark_of, [], []⟩
abbrev s_runs_of : Stmt := top 49
theorem sc_runs_of : FnScope ["rules", "record"] ["rules", "record"] (defScope s_runs_of) := ⟨rfl, rfl, rfl, by decide +kernel, rfl, by decide +kernel, by decide +kernel⟩
def d_runs_of : He.DefD := ⟨("runs_of", none), "runs_of", "runs_of", defArgs s_runs_of, defBody s_runs_of, defScope s_runs_of, [], []⟩
abbrev s_kinds_of : Stmt := top 50
theorem sc_kinds_of : FnScope ["rules", "record"] ["rules", "record"] (defScope s_kinds_of) := ⟨rfl, rfl, rfl, by decide +kernel, rfl, by decide +kernel, by decide +kernel⟩
def d_kinds_of : He.DefD := ⟨("kinds_of", none), "kinds_of", "kinds_of", defArgs s_kinds_of, defBody s_kinds_of, defScope s_kinds_of, [], []⟩
abbrev s_count_marks : Stmt := top 51
theorem sc_count_marks : FnScope ["rules", "record"] ["rules", "record"] (defScope s_count_marks) := ⟨rfl, rfl, rfl, by decide +kernel, rfl, by decide +kernel, by decide +kernel⟩
def d_count_marks : He.DefD := ⟨("count_marks", none), "count_marks", "count_marks", defArgs s_count_marks, defBody s_count_marks, defScope s_count_marks, [], []⟩
abbrev s_idle_from : Stmt := top 52
theorem sc_idle_from : FnScope ["rules", "record", "runs", "begin", "word", "times"] ["rules", "record"] (defScope s_idle_from) := ⟨rfl, rfl, rfl, by decide +kernel, rfl, by decide +kernel, by decide +kernel⟩
def d_idle_from : He.DefD := ⟨("idle_from", none), "idle_from", "idle_from", defArgs s_idle_from, defBody s_idle_from, defScope s_idle_from, [], []⟩
abbrev s_nth_mark : Stmt := top 53
theorem sc_nth_mark : FnScope ["rules", "record", "index", "runs", "left", "run", "many", "begin", "word", "times"] ["rules", "record", "index"] (defScope s_nth_mark) := ⟨rfl, rfl, rfl, by decide +kernel, rfl, by decide +kernel, by decide +kernel⟩
def d_nth_mark : He.DefD := ⟨("nth_mark", none), "nth_mark", "nth_mark", defArgs s_nth_mark, defBody s_nth_mark, defScope s_nth_mark, [], []⟩
abbrev s_period : Stmt := top 55
theorem sc_period : FnScope ["rules", "kind"] ["rules", "kind"] (defScope s_period) := ⟨rfl, rfl, rfl, by decide +kernel, rfl, by decide +kernel, by decide +kernel⟩
def d_period : He.DefD := ⟨("period", none), "period", "period", defArgs s_period, defBody s_period, defScope s_period, [], []⟩
abbrev s_law_spring : Stmt := top 57
theorem sc_law_spring : FnScope ["script", "digits", "stirred", "cell", "mixed"] ["script"] (defScope s_law_spring) := ⟨rfl, rfl, rfl, by decide +kernel, rfl, by decide +kernel, by decide +kernel⟩
def d_law_spring : He.DefD := ⟨("_law_spring", none), "_law_spring", "_law_spring", defArgs s_law_spring, defBody s_law_spring, defScope s_law_spring, [], []⟩
abbrev s_law_draw : Stmt := top 58
theorem sc_law_draw : FnScope ["spring", "many", "found", "grain"] ["spring", "many"] (defScope s_law_draw) := ⟨rfl, rfl, rfl, by decide +kernel, rfl, by decide +kernel, by decide +kernel⟩
def d_law_draw : He.DefD := ⟨("_law_draw", none), "_law_draw", "_law_draw", defArgs s_law_draw, defBody s_law_draw, defScope s_law_draw, [], []⟩
abbrev s_law_rules : Stmt := top 59
theorem sc_law_rules : FnScope ["spring", "unit", "short", "long", "pause", "some", "edge", "deaf", "remember", "both"] ["spring"] (defScope s_law_rules) := ⟨rfl, rfl, rfl, by decide +kernel, rfl, by decide +kernel, by decide +kernel⟩
def d_law_rules : He.DefD := ⟨("_law_rules", none), "_law_rules", "_law_rules", defArgs s_law_rules, defBody s_law_rules, defScope s_law_rules, [], []⟩
abbrev s_law_step : Stmt := top 60
theorem sc_law_step : FnScope ["spring", "rules", "one", "other", "pause", "deaf", "low", "some"] ["spring", "rules"] (defScope s_law_step) := ⟨rfl, rfl, rfl, by decide +kernel, rfl, by decide +kernel, by decide +kernel⟩
def d_law_step : He.DefD := ⟨("_law_step", none), "_law_step", "_law_step", defArgs s_law_step, defBody s_law_step, defScope s_law_step, [], []⟩
abbrev s_law_record : Stmt := top 61
theorem sc_law_record : FnScope ["spring", "rules", "most", "found", "down", "tick", "turn", "lever", "more", "other"] ["spring", "rules", "most"] (defScope s_law_record) := ⟨rfl, rfl, rfl, by decide +kernel, rfl, by decide +kernel, by decide +kernel⟩
def d_law_record : He.DefD := ⟨("_law_record", none), "_law_record", "_law_record", defArgs s_law_record, defBody s_law_record, defScope s_law_record, [], []⟩
abbrev s_law_many : Stmt := top 62
theorem sc_law_many : FnScope ["kinds", "kind", "word", "times", "one"] ["kinds", "kind"] (defScope s_law_many) := ⟨rfl, rfl, rfl, by decide +kernel, rfl, by decide +kernel, by decide +kernel⟩
def d_law_many : He.DefD := ⟨("_law_many", none), "_law_many", "_law_many", defArgs s_law_many, defBody s_law_many, defScope s_law_many, [], []⟩
abbrev s_law_groups : Stmt := top 63
theorem sc_law_groups : FnScope ["rules", "runs_here", "found", "end", "begin", "word", "times", "kind"] ["rules", "runs_here"] (defScope s_law_groups) := ⟨rfl, rfl, rfl, by decide +kernel, rfl, by decide +kernel, by decide +kernel⟩
def d_law_groups : He.DefD := ⟨("_law_groups", none), "_law_groups", "_law_groups", defArgs s_law_groups, defBody s_law_groups, defScope s_law_groups, [], []⟩
abbrev s_law_counts_right : Stmt := top 64
theorem sc_law_counts_right : FnScope ["rules", "record", "kinds", "counts", "idles", "lever", "word", "is_press", "due", "most", "hears", "kind", "event"] ["rules", "record"] (defScope s_law_counts_right) := ⟨rfl, rfl, rfl, by decide +kernel, rfl, by decide +kernel, by decide +kernel⟩
def d_law_counts_right : He.DefD := ⟨("_law_counts_right", none), "_law_counts_right", "_law_counts_right", defArgs s_law_counts_right, defBody s_law_counts_right, defScope s_law_counts_right, [], []⟩
abbrev s_law_listed_right : Stmt := top 65
theorem sc_law_listed_right : FnScope ["rules", "record", "told", "begins", "some", "marks", "tick", "word", "index", "mark"] ["rules", "record"] (defScope s_law_listed_right) := ⟨rfl, rfl, rfl, by decide +kernel, rfl, by decide +kernel, by decide +kernel⟩
def d_law_listed_right : He.DefD := ⟨("_law_listed_right", none), "_law_listed_right", "_law_listed_right", defArgs s_law_listed_right, defBody s_law_listed_right, defScope s_law_listed_right, [], []⟩
abbrev s_law : Stmt := top 66
theorem sc_law : FnScope ["script", "spring", "turn", "rules", "record", "spot", "long", "tick", "lever", "is_press"] ["script"] (defScope s_law) := ⟨rfl, rfl, rfl, by decide +kernel, rfl, by decide +kernel, by decide +kernel⟩
def d_law : He.DefD := ⟨("law", none), "law", "law", defArgs s_law, defBody s_law, defScope s_law, [], []⟩
def fn : List He.DefD := [d_is_integer, d_is_one_of, d_rules_flags, d_require_rules, d_is_event, d_fault_of_record, d_require_record, d_require_lever, d_require_index, d_length_of, d_period_of, d_word_period, d_other_of, d_Blocks_init, d_Blocks_last_kind, d_Blocks_put_alternating, d_Blocks_put_same, d_Blocks_put_in, d_Blocks_tidy, d_tidy_kinds, d_tidy_runs, d_can_hear, d_outcome, d_State_init, d_State_note, d_State_note_other, d_State_is_held_other, d_State_start, d_State_hear, d_State_decide, d_State_following, d_State_skip, d_State_jump, d_State_advance, d_State_happen, d_State_finish, d_State_tidy, d_state_behind, d_counts_of, d_steps, d_count_steps, d_count_word, d_all_runs, d_all_kinds, d_many_marks, d_mark_of, d_runs_of, d_kinds_of, d_count_marks, d_idle_from, d_nth_mark, d_period, d_law_spring, d_law_draw, d_law_rules, d_law_step, d_law_record, d_law_many, d_law_groups, d_law_counts_right, d_law_listed_right, d_law]
def fa0 : List He.Fa := [.glo "is_integer", .glo "is_one_of", .glo "rules_flags", .glo "require_rules", .glo "is_event", .glo "fault_of_record", .glo "require_record", .glo "require_lever", .glo "require_index", .glo "length_of", .glo "period_of", .glo "word_period", .glo "other_of", .glo "Blocks", .cls "Blocks", .mkr "Blocks", .meth "Blocks" "last_kind", .meth "Blocks" "put_alternating", .meth "Blocks" "put_same", .meth "Blocks" "put_in"]
def fa1 : List He.Fa := [.meth "Blocks" "tidy", .glo "tidy_kinds", .glo "tidy_runs", .glo "can_hear", .glo "outcome", .glo "State", .cls "State", .mkr "State", .meth "State" "note", .meth "State" "note_other", .meth "State" "is_held_other", .meth "State" "start", .meth "State" "hear", .meth "State" "decide", .meth "State" "following", .meth "State" "skip", .meth "State" "jump", .meth "State" "advance", .meth "State" "happen", .meth "State" "finish"]
def fa2 : List He.Fa := [.meth "State" "tidy", .glo "state_behind", .glo "counts_of", .glo "steps", .glo "count_steps", .glo "count_word", .glo "all_runs", .glo "all_kinds", .glo "many_marks", .glo "mark_of", .glo "runs_of", .glo "kinds_of", .glo "count_marks", .glo "idle_from", .glo "nth_mark", .glo "period", .glo "_law_spring", .glo "_law_draw", .glo "_law_rules", .glo "_law_step"]
def fa3 : List He.Fa := [.glo "_law_record", .glo "_law_many", .glo "_law_groups", .glo "_law_counts_right", .glo "_law_listed_right", .glo "law", .noat "Blocks" "kept_parts", .noat "State" "kept_rules", .noat "State" "kept_is_logged", .noat "State" "kept_kind", .noat "State" "kept_begin", .noat "State" "kept_is_heard", .noat "State" "kept_is_other", .noat "State" "kept_is_own", .noat "State" "kept_down", .noat "State" "kept_runs", .noat "State" "kept_counts", .noat "State" "kept_log", .free "isinstance", .free "int"]
def fa4 : List He.Fa := [.free "bool", .free "str", .free "tuple", .free "list", .free "dict", .free "len", .free "sum", .free "sorted", .free "enumerate", .free "range", .free "zip", .free "all", .free "any", .free "abs", .free "max", .free "min", .glo "LEVERS", .glo "REMEMBERS", .glo "PREFERENCES", .int "MOST_EVENTS" 200]
def fa5 : List He.Fa := [.int "ALTERNATING" 4, .glo "STEP_WORDS", .int "MOST_STEPS" 1000]
def fa : List He.Fa := fa0 ++ (fa1 ++ (fa2 ++ (fa3 ++ (fa4 ++ (fa5)))))
def pn : List PropD := []
def exB (K : PySem.W.Frag) : Bool := He.tupB K "LEVERS" [.str "s", .str "l"] && (He.tupB K "REMEMBERS" [.str "none", .str "press", .str "held"] && (He.tupB K "PREFERENCES" [.str "turn", .str "stay", .str "s", .str "l"] && (He.tupB K "STEP_WORDS" [.str "press s", .str "press l", .str "release s", .str "release l", .str "begin s", .str "begin l", .str "hear", .str "remember s", .str "remember l", .str "idle"])))
structure Txt (K : PySem.W.Frag) (mg : Str → Option Value) : Prop where
  ex : ∃ h : Heap, K.In h ∧ h.Ns mainGlobals mg ∧ Says fa fn pn exB K
section
variable {K : PySem.W.Frag} {mg : Str → Option Value}
theorem T_is_integer (T : Txt K mg) : mg "is_integer" = some (.ref (He.ga K "is_integer")) := by
  obtain ⟨h, X, G, s⟩ := T.ex
  have c := s.d
  exact He.glo_ok X G (c.fact 0 (f := .glo "is_integer") rfl)
theorem T_is_one_of (T : Txt K mg) : mg "is_one_of" = some (.ref (He.ga K "is_one_of")) := by
  obtain ⟨h, X, G, s⟩ := T.ex
  have c := s.d
  exact He.glo_ok X G (c.fact 1 (f := .glo "is_one_of") rfl)
theorem T_rules_flags (T : Txt K mg) : mg "rules_flags" = some (.ref (He.ga K "rules_flags")) := by
  obtain ⟨h, X, G, s⟩ := T.ex
  have c := s.d
  exact He.glo_ok X G (c.fact 2 (f := .glo "rules_flags") rfl)
theorem T_require_rules (T : Txt K mg) : mg "require_rules" = some (.ref (He.ga K "require_rules")) := by
  obtain ⟨h, X, G, s⟩ := T.ex
  have c := s.d
  exact He.glo_ok X G (c.fact 3 (f := .glo "require_rules") rfl)
theorem T_is_event (T : Txt K mg) : mg "is_event" = some (.ref (He.ga K "is_event")) := by
  obtain ⟨h, X, G, s⟩ := T.ex
  have c := s.d
  exact He.glo_ok X G (c.fact 4 (f := .glo "is_event") rfl)
theorem T_fault_of_record (T : Txt K mg) : mg "fault_of_record" = some (.ref (He.ga K "fault_of_record")) := by
  obtain ⟨h, X, G, s⟩ := T.ex
  have c := s.d
  exact He.glo_ok X G (c.fact 5 (f := .glo "fault_of_record") rfl)
theorem T_require_record (T : Txt K mg) : mg "require_record" = some (.ref (He.ga K "require_record")) := by
  obtain ⟨h, X, G, s⟩ := T.ex
  have c := s.d
  exact He.glo_ok X G (c.fact 6 (f := .glo "require_record") rfl)
theorem T_require_lever (T : Txt K mg) : mg "require_lever" = some (.ref (He.ga K "require_lever")) := by
  obtain ⟨h, X, G, s⟩ := T.ex
  have c := s.d
  exact He.glo_ok X G (c.fact 7 (f := .glo "require_lever") rfl)
theorem T_require_index (T : Txt K mg) : mg "require_index" = some (.ref (He.ga K "require_index")) := by
  obtain ⟨h, X, G, s⟩ := T.ex
  have c := s.d
  exact He.glo_ok X G (c.fact 8 (f := .glo "require_index") rfl)
theorem T_length_of (T : Txt K mg) : mg "length_of" = some (.ref (He.ga K "length_of")) := by
  obtain ⟨h, X, G, s⟩ := T.ex
  have c := s.d
  exact He.glo_ok X G (c.fact 9 (f := .glo "length_of") rfl)
theorem T_period_of (T : Txt K mg) : mg "period_of" = some (.ref (He.ga K "period_of")) := by
  obtain ⟨h, X, G, s⟩ := T.ex
  have c := s.d
  exact He.glo_ok X G (c.fact 10 (f := .glo "period_of") rfl)
theorem T_word_period (T : Txt K mg) : mg "word_period" = some (.ref (He.ga K "word_period")) := by
  obtain ⟨h, X, G, s⟩ := T.ex
  have c := s.d
  exact He.glo_ok X G (c.fact 11 (f := .glo "word_period") rfl)
theorem T_other_of (T : Txt K mg) : mg "other_of" = some (.ref (He.ga K "other_of")) := by
  obtain ⟨h, X, G, s⟩ := T.ex
  have c := s.d
  exact He.glo_ok X G (c.fact 12 (f := .glo "other_of") rfl)
theorem T_Blocks (T : Txt K mg) : mg "Blocks" = some (.ref (He.ga K "Blocks")) := by
  obtain ⟨h, X, G, s⟩ := T.ex
  have c := s.d
  exact He.glo_ok X G (c.fact 13 (f := .glo "Blocks") rfl)
theorem C_Blocks (T : Txt K mg) : Cls K (He.ga K "Blocks") := by
  obtain ⟨h, X, G, s⟩ := T.ex
  have c := s.d
  exact He.cls_ok (c.fact 14 (f := .cls "Blocks") rfl)
theorem K_Blocks (T : Txt K mg) : Mk K (He.ga K "Blocks") (He.ma K (He.ga K "Blocks") "__init__") := by
  obtain ⟨h, X, G, s⟩ := T.ex
  have c := s.d
  exact He.mkr_ok (c.fact 15 (f := .mkr "Blocks") rfl)
theorem M_Blocks_last_kind (T : Txt K mg) : Meth K (He.ga K "Blocks") "last_kind" (He.ma K (He.ga K "Blocks") "last_kind") := by
  obtain ⟨h, X, G, s⟩ := T.ex
  have c := s.d
  exact He.meth_ok (c.fact 16 (f := .meth "Blocks" "last_kind") rfl)
theorem M_Blocks_put_alternating (T : Txt K mg) : Meth K (He.ga K "Blocks") "put_alternating" (He.ma K (He.ga K "Blocks") "put_alternating") := by
  obtain ⟨h, X, G, s⟩ := T.ex
  have c := s.d
  exact He.meth_ok (c.fact 17 (f := .meth "Blocks" "put_alternating") rfl)
theorem M_Blocks_put_same (T : Txt K mg) : Meth K (He.ga K "Blocks") "put_same" (He.ma K (He.ga K "Blocks") "put_same") := by
  obtain ⟨h, X, G, s⟩ := T.ex
  have c := s.d
  exact He.meth_ok (c.fact 18 (f := .meth "Blocks" "put_same") rfl)
theorem M_Blocks_put_in (T : Txt K mg) : Meth K (He.ga K "Blocks") "put_in" (He.ma K (He.ga K "Blocks") "put_in") := by
  obtain ⟨h, X, G, s⟩ := T.ex
  have c := s.d
  exact He.meth_ok (c.fact 19 (f := .meth "Blocks" "put_in") rfl)
theorem M_Blocks_tidy (T : Txt K mg) : Meth K (He.ga K "Blocks") "tidy" (He.ma K (He.ga K "Blocks") "tidy") := by
  obtain ⟨h, X, G, s⟩ := T.ex
  have c := s.d
  exact He.meth_ok (c.fact 20 (f := .meth "Blocks" "tidy") rfl)
theorem T_tidy_kinds (T : Txt K mg) : mg "tidy_kinds" = some (.ref (He.ga K "tidy_kinds")) := by
  obtain ⟨h, X, G, s⟩ := T.ex
  have c := s.d
  exact He.glo_ok X G (c.fact 21 (f := .glo "tidy_kinds") rfl)
theorem T_tidy_runs (T : Txt K mg) : mg "tidy_runs" = some (.ref (He.ga K "tidy_runs")) := by
  obtain ⟨h, X, G, s⟩ := T.ex
  have c := s.d
  exact He.glo_ok X G (c.fact 22 (f := .glo "tidy_runs") rfl)
theorem T_can_hear (T : Txt K mg) : mg "can_hear" = some (.ref (He.ga K "can_hear")) := by
  obtain ⟨h, X, G, s⟩ := T.ex
  have c := s.d
  exact He.glo_ok X G (c.fact 23 (f := .glo "can_hear") rfl)
theorem T_outcome (T : Txt K mg) : mg "outcome" = some (.ref (He.ga K "outcome")) := by
  obtain ⟨h, X, G, s⟩ := T.ex
  have c := s.d
  exact He.glo_ok X G (c.fact 24 (f := .glo "outcome") rfl)
theorem T_State (T : Txt K mg) : mg "State" = some (.ref (He.ga K "State")) := by
  obtain ⟨h, X, G, s⟩ := T.ex
  have c := s.d
  exact He.glo_ok X G (c.fact 25 (f := .glo "State") rfl)
theorem C_State (T : Txt K mg) : Cls K (He.ga K "State") := by
  obtain ⟨h, X, G, s⟩ := T.ex
  have c := s.d
  exact He.cls_ok (c.fact 26 (f := .cls "State") rfl)
theorem K_State (T : Txt K mg) : Mk K (He.ga K "State") (He.ma K (He.ga K "State") "__init__") := by
  obtain ⟨h, X, G, s⟩ := T.ex
  have c := s.d
  exact He.mkr_ok (c.fact 27 (f := .mkr "State") rfl)
theorem M_State_note (T : Txt K mg) : Meth K (He.ga K "State") "note" (He.ma K (He.ga K "State") "note") := by
  obtain ⟨h, X, G, s⟩ := T.ex
  have c := s.d
  exact He.meth_ok (c.fact 28 (f := .meth "State" "note") rfl)
theorem M_State_note_other (T : Txt K mg) : Meth K (He.ga K "State") "note_other" (He.ma K (He.ga K "State") "note_other") := by
  obtain ⟨h, X, G, s⟩ := T.ex
  have c := s.d
  exact He.meth_ok (c.fact 29 (f := .meth "State" "note_other") rfl)
theorem M_State_is_held_other (T : Txt K mg) : Meth K (He.ga K "State") "is_held_other" (He.ma K (He.ga K "State") "is_held_other") := by
  obtain ⟨h, X, G, s⟩ := T.ex
  have c := s.d
  exact He.meth_ok (c.fact 30 (f := .meth "State" "is_held_other") rfl)
theorem M_State_start (T : Txt K mg) : Meth K (He.ga K "State") "start" (He.ma K (He.ga K "State") "start") := by
  obtain ⟨h, X, G, s⟩ := T.ex
  have c := s.d
  exact He.meth_ok (c.fact 31 (f := .meth "State" "start") rfl)
theorem M_State_hear (T : Txt K mg) : Meth K (He.ga K "State") "hear" (He.ma K (He.ga K "State") "hear") := by
  obtain ⟨h, X, G, s⟩ := T.ex
  have c := s.d
  exact He.meth_ok (c.fact 32 (f := .meth "State" "hear") rfl)
theorem M_State_decide (T : Txt K mg) : Meth K (He.ga K "State") "decide" (He.ma K (He.ga K "State") "decide") := by
  obtain ⟨h, X, G, s⟩ := T.ex
  have c := s.d
  exact He.meth_ok (c.fact 33 (f := .meth "State" "decide") rfl)
theorem M_State_following (T : Txt K mg) : Meth K (He.ga K "State") "following" (He.ma K (He.ga K "State") "following") := by
  obtain ⟨h, X, G, s⟩ := T.ex
  have c := s.d
  exact He.meth_ok (c.fact 34 (f := .meth "State" "following") rfl)
theorem M_State_skip (T : Txt K mg) : Meth K (He.ga K "State") "skip" (He.ma K (He.ga K "State") "skip") := by
  obtain ⟨h, X, G, s⟩ := T.ex
  have c := s.d
  exact He.meth_ok (c.fact 35 (f := .meth "State" "skip") rfl)
theorem M_State_jump (T : Txt K mg) : Meth K (He.ga K "State") "jump" (He.ma K (He.ga K "State") "jump") := by
  obtain ⟨h, X, G, s⟩ := T.ex
  have c := s.d
  exact He.meth_ok (c.fact 36 (f := .meth "State" "jump") rfl)
theorem M_State_advance (T : Txt K mg) : Meth K (He.ga K "State") "advance" (He.ma K (He.ga K "State") "advance") := by
  obtain ⟨h, X, G, s⟩ := T.ex
  have c := s.d
  exact He.meth_ok (c.fact 37 (f := .meth "State" "advance") rfl)
theorem M_State_happen (T : Txt K mg) : Meth K (He.ga K "State") "happen" (He.ma K (He.ga K "State") "happen") := by
  obtain ⟨h, X, G, s⟩ := T.ex
  have c := s.d
  exact He.meth_ok (c.fact 38 (f := .meth "State" "happen") rfl)
theorem M_State_finish (T : Txt K mg) : Meth K (He.ga K "State") "finish" (He.ma K (He.ga K "State") "finish") := by
  obtain ⟨h, X, G, s⟩ := T.ex
  have c := s.d
  exact He.meth_ok (c.fact 39 (f := .meth "State" "finish") rfl)
theorem M_State_tidy (T : Txt K mg) : Meth K (He.ga K "State") "tidy" (He.ma K (He.ga K "State") "tidy") := by
  obtain ⟨h, X, G, s⟩ := T.ex
  have c := s.d
  exact He.meth_ok (c.fact 40 (f := .meth "State" "tidy") rfl)
theorem T_state_behind (T : Txt K mg) : mg "state_behind" = some (.ref (He.ga K "state_behind")) := by
  obtain ⟨h, X, G, s⟩ := T.ex
  have c := s.d
  exact He.glo_ok X G (c.fact 41 (f := .glo "state_behind") rfl)
theorem T_counts_of (T : Txt K mg) : mg "counts_of" = some (.ref (He.ga K "counts_of")) := by
  obtain ⟨h, X, G, s⟩ := T.ex
  have c := s.d
  exact He.glo_ok X G (c.fact 42 (f := .glo "counts_of") rfl)
theorem T_steps (T : Txt K mg) : mg "steps" = some (.ref (He.ga K "steps")) := by
  obtain ⟨h, X, G, s⟩ := T.ex
  have c := s.d
  exact He.glo_ok X G (c.fact 43 (f := .glo "steps") rfl)
theorem T_count_steps (T : Txt K mg) : mg "count_steps" = some (.ref (He.ga K "count_steps")) := by
  obtain ⟨h, X, G, s⟩ := T.ex
  have c := s.d
  exact He.glo_ok X G (c.fact 44 (f := .glo "count_steps") rfl)
theorem T_count_word (T : Txt K mg) : mg "count_word" = some (.ref (He.ga K "count_word")) := by
  obtain ⟨h, X, G, s⟩ := T.ex
  have c := s.d
  exact He.glo_ok X G (c.fact 45 (f := .glo "count_word") rfl)
theorem T_all_runs (T : Txt K mg) : mg "all_runs" = some (.ref (He.ga K "all_runs")) := by
  obtain ⟨h, X, G, s⟩ := T.ex
  have c := s.d
  exact He.glo_ok X G (c.fact 46 (f := .glo "all_runs") rfl)
theorem T_all_kinds (T : Txt K mg) : mg "all_kinds" = some (.ref (He.ga K "all_kinds")) := by
  obtain ⟨h, X, G, s⟩ := T.ex
  have c := s.d
  exact He.glo_ok X G (c.fact 47 (f := .glo "all_kinds") rfl)
theorem T_many_marks (T : Txt K mg) : mg "many_marks" = some (.ref (He.ga K "many_marks")) := by
  obtain ⟨h, X, G, s⟩ := T.ex
  have c := s.d
  exact He.glo_ok X G (c.fact 48 (f := .glo "many_marks") rfl)
theorem T_mark_of (T : Txt K mg) : mg "mark_of" = some (.ref (He.ga K "mark_of")) := by
  obtain ⟨h, X, G, s⟩ := T.ex
  have c := s.d
  exact He.glo_ok X G (c.fact 49 (f := .glo "mark_of") rfl)
theorem T_runs_of (T : Txt K mg) : mg "runs_of" = some (.ref (He.ga K "runs_of")) := by
  obtain ⟨h, X, G, s⟩ := T.ex
  have c := s.d
  exact He.glo_ok X G (c.fact 50 (f := .glo "runs_of") rfl)
theorem T_kinds_of (T : Txt K mg) : mg "kinds_of" = some (.ref (He.ga K "kinds_of")) := by
  obtain ⟨h, X, G, s⟩ := T.ex
  have c := s.d
  exact He.glo_ok X G (c.fact 51 (f := .glo "kinds_of") rfl)
theorem T_count_marks (T : Txt K mg) : mg "count_marks" = some (.ref (He.ga K "count_marks")) := by
  obtain ⟨h, X, G, s⟩ := T.ex
  have c := s.d
  exact He.glo_ok X G (c.fact 52 (f := .glo "count_marks") rfl)
theorem T_idle_from (T : Txt K mg) : mg "idle_from" = some (.ref (He.ga K "idle_from")) := by
  obtain ⟨h, X, G, s⟩ := T.ex
  have c := s.d
  exact He.glo_ok X G (c.fact 53 (f := .glo "idle_from") rfl)
theorem T_nth_mark (T : Txt K mg) : mg "nth_mark" = some (.ref (He.ga K "nth_mark")) := by
  obtain ⟨h, X, G, s⟩ := T.ex
  have c := s.d
  exact He.glo_ok X G (c.fact 54 (f := .glo "nth_mark") rfl)
theorem T_period (T : Txt K mg) : mg "period" = some (.ref (He.ga K "period")) := by
  obtain ⟨h, X, G, s⟩ := T.ex
  have c := s.d
  exact He.glo_ok X G (c.fact 55 (f := .glo "period") rfl)
theorem T_law_spring (T : Txt K mg) : mg "_law_spring" = some (.ref (He.ga K "_law_spring")) := by
  obtain ⟨h, X, G, s⟩ := T.ex
  have c := s.d
  exact He.glo_ok X G (c.fact 56 (f := .glo "_law_spring") rfl)
theorem T_law_draw (T : Txt K mg) : mg "_law_draw" = some (.ref (He.ga K "_law_draw")) := by
  obtain ⟨h, X, G, s⟩ := T.ex
  have c := s.d
  exact He.glo_ok X G (c.fact 57 (f := .glo "_law_draw") rfl)
theorem T_law_rules (T : Txt K mg) : mg "_law_rules" = some (.ref (He.ga K "_law_rules")) := by
  obtain ⟨h, X, G, s⟩ := T.ex
  have c := s.d
  exact He.glo_ok X G (c.fact 58 (f := .glo "_law_rules") rfl)
theorem T_law_step (T : Txt K mg) : mg "_law_step" = some (.ref (He.ga K "_law_step")) := by
  obtain ⟨h, X, G, s⟩ := T.ex
  have c := s.d
  exact He.glo_ok X G (c.fact 59 (f := .glo "_law_step") rfl)
theorem T_law_record (T : Txt K mg) : mg "_law_record" = some (.ref (He.ga K "_law_record")) := by
  obtain ⟨h, X, G, s⟩ := T.ex
  have c := s.d
  exact He.glo_ok X G (c.fact 60 (f := .glo "_law_record") rfl)
theorem T_law_many (T : Txt K mg) : mg "_law_many" = some (.ref (He.ga K "_law_many")) := by
  obtain ⟨h, X, G, s⟩ := T.ex
  have c := s.d
  exact He.glo_ok X G (c.fact 61 (f := .glo "_law_many") rfl)
theorem T_law_groups (T : Txt K mg) : mg "_law_groups" = some (.ref (He.ga K "_law_groups")) := by
  obtain ⟨h, X, G, s⟩ := T.ex
  have c := s.d
  exact He.glo_ok X G (c.fact 62 (f := .glo "_law_groups") rfl)
theorem T_law_counts_right (T : Txt K mg) : mg "_law_counts_right" = some (.ref (He.ga K "_law_counts_right")) := by
  obtain ⟨h, X, G, s⟩ := T.ex
  have c := s.d
  exact He.glo_ok X G (c.fact 63 (f := .glo "_law_counts_right") rfl)
theorem T_law_listed_right (T : Txt K mg) : mg "_law_listed_right" = some (.ref (He.ga K "_law_listed_right")) := by
  obtain ⟨h, X, G, s⟩ := T.ex
  have c := s.d
  exact He.glo_ok X G (c.fact 64 (f := .glo "_law_listed_right") rfl)
theorem T_law (T : Txt K mg) : mg "law" = some (.ref (He.ga K "law")) := by
  obtain ⟨h, X, G, s⟩ := T.ex
  have c := s.d
  exact He.glo_ok X G (c.fact 65 (f := .glo "law") rfl)
theorem N_Blocks_kept_parts (T : Txt K mg) : NoAttr K (He.ga K "Blocks") "kept_parts" := by
  obtain ⟨h, X, G, s⟩ := T.ex
  have c := s.d
  exact He.noat_ok (c.fact 66 (f := .noat "Blocks" "kept_parts") rfl)
theorem N_State_kept_rules (T : Txt K mg) : NoAttr K (He.ga K "State") "kept_rules" := by
  obtain ⟨h, X, G, s⟩ := T.ex
  have c := s.d
  exact He.noat_ok (c.fact 67 (f := .noat "State" "kept_rules") rfl)
theorem N_State_kept_is_logged (T : Txt K mg) : NoAttr K (He.ga K "State") "kept_is_logged" := by
  obtain ⟨h, X, G, s⟩ := T.ex
  have c := s.d
  exact He.noat_ok (c.fact 68 (f := .noat "State" "kept_is_logged") rfl)
theorem N_State_kept_kind (T : Txt K mg) : NoAttr K (He.ga K "State") "kept_kind" := by
  obtain ⟨h, X, G, s⟩ := T.ex
  have c := s.d
  exact He.noat_ok (c.fact 69 (f := .noat "State" "kept_kind") rfl)
theorem N_State_kept_begin (T : Txt K mg) : NoAttr K (He.ga K "State") "kept_begin" := by
  obtain ⟨h, X, G, s⟩ := T.ex
  have c := s.d
  exact He.noat_ok (c.fact 70 (f := .noat "State" "kept_begin") rfl)
theorem N_State_kept_is_heard (T : Txt K mg) : NoAttr K (He.ga K "State") "kept_is_heard" := by
  obtain ⟨h, X, G, s⟩ := T.ex
  have c := s.d
  exact He.noat_ok (c.fact 71 (f := .noat "State" "kept_is_heard") rfl)
theorem N_State_kept_is_other (T : Txt K mg) : NoAttr K (He.ga K "State") "kept_is_other" := by
  obtain ⟨h, X, G, s⟩ := T.ex
  have c := s.d
  exact He.noat_ok (c.fact 72 (f := .noat "State" "kept_is_other") rfl)
theorem N_State_kept_is_own (T : Txt K mg) : NoAttr K (He.ga K "State") "kept_is_own" := by
  obtain ⟨h, X, G, s⟩ := T.ex
  have c := s.d
  exact He.noat_ok (c.fact 73 (f := .noat "State" "kept_is_own") rfl)
theorem N_State_kept_down (T : Txt K mg) : NoAttr K (He.ga K "State") "kept_down" := by
  obtain ⟨h, X, G, s⟩ := T.ex
  have c := s.d
  exact He.noat_ok (c.fact 74 (f := .noat "State" "kept_down") rfl)
theorem N_State_kept_runs (T : Txt K mg) : NoAttr K (He.ga K "State") "kept_runs" := by
  obtain ⟨h, X, G, s⟩ := T.ex
  have c := s.d
  exact He.noat_ok (c.fact 75 (f := .noat "State" "kept_runs") rfl)
theorem N_State_kept_counts (T : Txt K mg) : NoAttr K (He.ga K "State") "kept_counts" := by
  obtain ⟨h, X, G, s⟩ := T.ex
  have c := s.d
  exact He.noat_ok (c.fact 76 (f := .noat "State" "kept_counts") rfl)
theorem N_State_kept_log (T : Txt K mg) : NoAttr K (He.ga K "State") "kept_log" := by
  obtain ⟨h, X, G, s⟩ := T.ex
  have c := s.d
  exact He.noat_ok (c.fact 77 (f := .noat "State" "kept_log") rfl)
theorem T_isinstance (T : Txt K mg) : mg "isinstance" = none := by
  obtain ⟨h, X, G, s⟩ := T.ex
  have c := s.d
  exact He.free_ok X G (c.fact 78 (f := .free "isinstance") rfl)
theorem T_int (T : Txt K mg) : mg "int" = none := by
  obtain ⟨h, X, G, s⟩ := T.ex
  have c := s.d
  exact He.free_ok X G (c.fact 79 (f := .free "int") rfl)
theorem T_bool (T : Txt K mg) : mg "bool" = none := by
  obtain ⟨h, X, G, s⟩ := T.ex
  have c := s.d
  exact He.free_ok X G (c.fact 80 (f := .free "bool") rfl)
theorem T_str (T : Txt K mg) : mg "str" = none := by
  obtain ⟨h, X, G, s⟩ := T.ex
  have c := s.d
  exact He.free_ok X G (c.fact 81 (f := .free "str") rfl)
theorem T_tuple (T : Txt K mg) : mg "tuple" = none := by
  obtain ⟨h, X, G, s⟩ := T.ex
  have c := s.d
  exact He.free_ok X G (c.fact 82 (f := .free "tuple") rfl)
theorem T_list (T : Txt K mg) : mg "list" = none := by
  obtain ⟨h, X, G, s⟩ := T.ex
  have c := s.d
  exact He.free_ok X G (c.fact 83 (f := .free "list") rfl)
theorem T_dict (T : Txt K mg) : mg "dict" = none := by
  obtain ⟨h, X, G, s⟩ := T.ex
  have c := s.d
  exact He.free_ok X G (c.fact 84 (f := .free "dict") rfl)
theorem T_len (T : Txt K mg) : mg "len" = none := by
  obtain ⟨h, X, G, s⟩ := T.ex
  have c := s.d
  exact He.free_ok X G (c.fact 85 (f := .free "len") rfl)
theorem T_sum (T : Txt K mg) : mg "sum" = none := by
  obtain ⟨h, X, G, s⟩ := T.ex
  have c := s.d
  exact He.free_ok X G (c.fact 86 (f := .free "sum") rfl)
theorem T_sorted (T : Txt K mg) : mg "sorted" = none := by
  obtain ⟨h, X, G, s⟩ := T.ex
  have c := s.d
  exact He.free_ok X G (c.fact 87 (f := .free "sorted") rfl)
theorem T_enumerate (T : Txt K mg) : mg "enumerate" = none := by
  obtain ⟨h, X, G, s⟩ := T.ex
  have c := s.d
  exact He.free_ok X G (c.fact 88 (f := .free "enumerate") rfl)
theorem T_range (T : Txt K mg) : mg "range" = none := by
  obtain ⟨h, X, G, s⟩ := T.ex
  have c := s.d
  exact He.free_ok X G (c.fact 89 (f := .free "range") rfl)
theorem T_zip (T : Txt K mg) : mg "zip" = none := by
  obtain ⟨h, X, G, s⟩ := T.ex
  have c := s.d
  exact He.free_ok X G (c.fact 90 (f := .free "zip") rfl)
theorem T_all (T : Txt K mg) : mg "all" = none := by
  obtain ⟨h, X, G, s⟩ := T.ex
  have c := s.d
  exact He.free_ok X G (c.fact 91 (f := .free "all") rfl)
theorem T_any (T : Txt K mg) : mg "any" = none := by
  obtain ⟨h, X, G, s⟩ := T.ex
  have c := s.d
  exact He.free_ok X G (c.fact 92 (f := .free "any") rfl)
theorem T_abs (T : Txt K mg) : mg "abs" = none := by
  obtain ⟨h, X, G, s⟩ := T.ex
  have c := s.d
  exact He.free_ok X G (c.fact 93 (f := .free "abs") rfl)
theorem T_max (T : Txt K mg) : mg "max" = none := by
  obtain ⟨h, X, G, s⟩ := T.ex
  have c := s.d
  exact He.free_ok X G (c.fact 94 (f := .free "max") rfl)
theorem T_min (T : Txt K mg) : mg "min" = none := by
  obtain ⟨h, X, G, s⟩ := T.ex
  have c := s.d
  exact He.free_ok X G (c.fact 95 (f := .free "min") rfl)
theorem T_LEVERS (T : Txt K mg) : mg "LEVERS" = some (.ref (He.ga K "LEVERS")) := by
  obtain ⟨h, X, G, s⟩ := T.ex
  have c := s.d
  exact He.glo_ok X G (c.fact 96 (f := .glo "LEVERS") rfl)
theorem T_REMEMBERS (T : Txt K mg) : mg "REMEMBERS" = some (.ref (He.ga K "REMEMBERS")) := by
  obtain ⟨h, X, G, s⟩ := T.ex
  have c := s.d
  exact He.glo_ok X G (c.fact 97 (f := .glo "REMEMBERS") rfl)
theorem T_PREFERENCES (T : Txt K mg) : mg "PREFERENCES" = some (.ref (He.ga K "PREFERENCES")) := by
  obtain ⟨h, X, G, s⟩ := T.ex
  have c := s.d
  exact He.glo_ok X G (c.fact 98 (f := .glo "PREFERENCES") rfl)
theorem T_MOST_EVENTS (T : Txt K mg) : ∃ u, mg "MOST_EVENTS" = some u ∧ RelV (.int 200) u := by
  obtain ⟨h, X, G, s⟩ := T.ex
  have c := s.d
  obtain ⟨t, e⟩ := He.int_ok X G (c.fact 99 (f := .int "MOST_EVENTS" 200) rfl)
  exact ⟨_, e, t, rfl⟩
theorem T_ALTERNATING (T : Txt K mg) : ∃ u, mg "ALTERNATING" = some u ∧ RelV (.int 4) u := by
  obtain ⟨h, X, G, s⟩ := T.ex
  have c := s.d
  obtain ⟨t, e⟩ := He.int_ok X G (c.fact 100 (f := .int "ALTERNATING" 4) rfl)
  exact ⟨_, e, t, rfl⟩
theorem T_STEP_WORDS (T : Txt K mg) : mg "STEP_WORDS" = some (.ref (He.ga K "STEP_WORDS")) := by
  obtain ⟨h, X, G, s⟩ := T.ex
  have c := s.d
  exact He.glo_ok X G (c.fact 101 (f := .glo "STEP_WORDS") rfl)
theorem T_MOST_STEPS (T : Txt K mg) : ∃ u, mg "MOST_STEPS" = some u ∧ RelV (.int 1000) u := by
  obtain ⟨h, X, G, s⟩ := T.ex
  have c := s.d
  obtain ⟨t, e⟩ := He.int_ok X G (c.fact 102 (f := .int "MOST_STEPS" 1000) rfl)
  exact ⟨_, e, t, rfl⟩
theorem D_is_integer (T : Txt K mg) : ∃ fd, FunD K "is_integer" "is_integer" (defArgs s_is_integer) (defBody s_is_integer) (defScope s_is_integer) [.non] [] (He.fAd K ("is_integer", none)) fd := by
  obtain ⟨h, X, G, s⟩ := T.ex
  exact s.d.def_ 0 (d := d_is_integer) rfl
theorem D_is_one_of (T : Txt K mg) : ∃ fd, FunD K "is_one_of" "is_one_of" (defArgs s_is_one_of) (defBody s_is_one_of) (defScope s_is_one_of) [] [] (He.fAd K ("is_one_of", none)) fd := by
  obtain ⟨h, X, G, s⟩ := T.ex
  exact s.d.def_ 1 (d := d_is_one_of) rfl
theorem D_rules_flags (T : Txt K mg) : ∃ fd, FunD K "rules_flags" "rules_flags" (defArgs s_rules_flags) (defBody s_rules_flags) (defScope s_rules_flags) [] [] (He.fAd K ("rules_flags", none)) fd := by
  obtain ⟨h, X, G, s⟩ := T.ex
  exact s.d.def_ 2 (d := d_rules_flags) rfl
theorem D_require_rules (T : Txt K mg) : ∃ fd, FunD K "require_rules" "require_rules" (defArgs s_require_rules) (defBody s_require_rules) (defScope s_require_rules) [] [] (He.fAd K ("require_rules", none)) fd := by
  obtain ⟨h, X, G, s⟩ := T.ex
  exact s.d.def_ 3 (d := d_require_rules) rfl
theorem D_is_event (T : Txt K mg) : ∃ fd, FunD K "is_event" "is_event" (defArgs s_is_event) (defBody s_is_event) (defScope s_is_event) [] [] (He.fAd K ("is_event", none)) fd := by
  obtain ⟨h, X, G, s⟩ := T.ex
  exact s.d.def_ 4 (d := d_is_event) rfl
theorem D_fault_of_record (T : Txt K mg) : ∃ fd, FunD K "fault_of_record" "fault_of_record" (defArgs s_fault_of_record) (defBody s_fault_of_record) (defScope s_fault_of_record) [] [] (He.fAd K ("fault_of_record", none)) fd := by
  obtain ⟨h, X, G, s⟩ := T.ex
  exact s.d.def_ 5 (d := d_fault_of_record) rfl
theorem D_require_record (T : Txt K mg) : ∃ fd, FunD K "require_record" "require_record" (defArgs s_require_record) (defBody s_require_record) (defScope s_require_record) [] [] (He.fAd K ("require_record", none)) fd := by
  obtain ⟨h, X, G, s⟩ := T.ex
  exact s.d.def_ 6 (d := d_require_record) rfl
theorem D_require_lever (T : Txt K mg) : ∃ fd, FunD K "require_lever" "require_lever" (defArgs s_require_lever) (defBody s_require_lever) (defScope s_require_lever) [] [] (He.fAd K ("require_lever", none)) fd := by
  obtain ⟨h, X, G, s⟩ := T.ex
  exact s.d.def_ 7 (d := d_require_lever) rfl
theorem D_require_index (T : Txt K mg) : ∃ fd, FunD K "require_index" "require_index" (defArgs s_require_index) (defBody s_require_index) (defScope s_require_index) [] [] (He.fAd K ("require_index", none)) fd := by
  obtain ⟨h, X, G, s⟩ := T.ex
  exact s.d.def_ 8 (d := d_require_index) rfl
theorem D_length_of (T : Txt K mg) : ∃ fd, FunD K "length_of" "length_of" (defArgs s_length_of) (defBody s_length_of) (defScope s_length_of) [] [] (He.fAd K ("length_of", none)) fd := by
  obtain ⟨h, X, G, s⟩ := T.ex
  exact s.d.def_ 9 (d := d_length_of) rfl
theorem D_period_of (T : Txt K mg) : ∃ fd, FunD K "period_of" "period_of" (defArgs s_period_of) (defBody s_period_of) (defScope s_period_of) [] [] (He.fAd K ("period_of", none)) fd := by
  obtain ⟨h, X, G, s⟩ := T.ex
  exact s.d.def_ 10 (d := d_period_of) rfl
theorem D_word_period (T : Txt K mg) : ∃ fd, FunD K "word_period" "word_period" (defArgs s_word_period) (defBody s_word_period) (defScope s_word_period) [] [] (He.fAd K ("word_period", none)) fd := by
  obtain ⟨h, X, G, s⟩ := T.ex
  exact s.d.def_ 11 (d := d_word_period) rfl
theorem D_other_of (T : Txt K mg) : ∃ fd, FunD K "other_of" "other_of" (defArgs s_other_of) (defBody s_other_of) (defScope s_other_of) [] [] (He.fAd K ("other_of", none)) fd := by
  obtain ⟨h, X, G, s⟩ := T.ex
  exact s.d.def_ 12 (d := d_other_of) rfl
theorem D_Blocks_init (T : Txt K mg) : ∃ fd, FunD K "__init__" "Blocks.__init__" (defArgs s_Blocks_init) (defBody s_Blocks_init) (defScope s_Blocks_init) [] [] (He.fAd K ("Blocks", some "__init__")) fd := by
  obtain ⟨h, X, G, s⟩ := T.ex
  exact s.d.def_ 13 (d := d_Blocks_init) rfl
theorem D_Blocks_last_kind (T : Txt K mg) : ∃ fd, FunD K "last_kind" "Blocks.last_kind" (defArgs s_Blocks_last_kind) (defBody s_Blocks_last_kind) (defScope s_Blocks_last_kind) [] [] (He.fAd K ("Blocks", some "last_kind")) fd := by
  obtain ⟨h, X, G, s⟩ := T.ex
  exact s.d.def_ 14 (d := d_Blocks_last_kind) rfl
theorem D_Blocks_put_alternating (T : Txt K mg) : ∃ fd, FunD K "put_alternating" "Blocks.put_alternating" (defArgs s_Blocks_put_alternating) (defBody s_Blocks_put_alternating) (defScope s_Blocks_put_alternating) [] [] (He.fAd K ("Blocks", some "put_alternating")) fd := by
  obtain ⟨h, X, G, s⟩ := T.ex
  exact s.d.def_ 15 (d := d_Blocks_put_alternating) rfl
theorem D_Blocks_put_same (T : Txt K mg) : ∃ fd, FunD K "put_same" "Blocks.put_same" (defArgs s_Blocks_put_same) (defBody s_Blocks_put_same) (defScope s_Blocks_put_same) [] [] (He.fAd K ("Blocks", some "put_same")) fd := by
  obtain ⟨h, X, G, s⟩ := T.ex
  exact s.d.def_ 16 (d := d_Blocks_put_same) rfl
theorem D_Blocks_put_in (T : Txt K mg) : ∃ fd, FunD K "put_in" "Blocks.put_in" (defArgs s_Blocks_put_in) (defBody s_Blocks_put_in) (defScope s_Blocks_put_in) [] [] (He.fAd K ("Blocks", some "put_in")) fd := by
  obtain ⟨h, X, G, s⟩ := T.ex
  exact s.d.def_ 17 (d := d_Blocks_put_in) rfl
theorem D_Blocks_tidy (T : Txt K mg) : ∃ fd, FunD K "tidy" "Blocks.tidy" (defArgs s_Blocks_tidy) (defBody s_Blocks_tidy) (defScope s_Blocks_tidy) [] [] (He.fAd K ("Blocks", some "tidy")) fd := by
  obtain ⟨h, X, G, s⟩ := T.ex
  exact s.d.def_ 18 (d := d_Blocks_tidy) rfl
theorem D_tidy_kinds (T : Txt K mg) : ∃ fd, FunD K "tidy_kinds" "tidy_kinds" (defArgs s_tidy_kinds) (defBody s_tidy_kinds) (defScope s_tidy_kinds) [] [] (He.fAd K ("tidy_kinds", none)) fd := by
  obtain ⟨h, X, G, s⟩ := T.ex
  exact s.d.def_ 19 (d := d_tidy_kinds) rfl
theorem D_tidy_runs (T : Txt K mg) : ∃ fd, FunD K "tidy_runs" "tidy_runs" (defArgs s_tidy_runs) (defBody s_tidy_runs) (defScope s_tidy_runs) [] [] (He.fAd K ("tidy_runs", none)) fd := by
  obtain ⟨h, X, G, s⟩ := T.ex
  exact s.d.def_ 20 (d := d_tidy_runs) rfl
theorem D_can_hear (T : Txt K mg) : ∃ fd, FunD K "can_hear" "can_hear" (defArgs s_can_hear) (defBody s_can_hear) (defScope s_can_hear) [] [] (He.fAd K ("can_hear", none)) fd := by
  obtain ⟨h, X, G, s⟩ := T.ex
  exact s.d.def_ 21 (d := d_can_hear) rfl
theorem D_outcome (T : Txt K mg) : ∃ fd, FunD K "outcome" "outcome" (defArgs s_outcome) (defBody s_outcome) (defScope s_outcome) [] [] (He.fAd K ("outcome", none)) fd := by
  obtain ⟨h, X, G, s⟩ := T.ex
  exact s.d.def_ 22 (d := d_outcome) rfl
theorem D_State_init (T : Txt K mg) : ∃ fd, FunD K "__init__" "State.__init__" (defArgs s_State_init) (defBody s_State_init) (defScope s_State_init) [] [] (He.fAd K ("State", some "__init__")) fd := by
  obtain ⟨h, X, G, s⟩ := T.ex
  exact s.d.def_ 23 (d := d_State_init) rfl
theorem D_State_note (T : Txt K mg) : ∃ fd, FunD K "note" "State.note" (defArgs s_State_note) (defBody s_State_note) (defScope s_State_note) [] [] (He.fAd K ("State", some "note")) fd := by
  obtain ⟨h, X, G, s⟩ := T.ex
  exact s.d.def_ 24 (d := d_State_note) rfl
theorem D_State_note_other (T : Txt K mg) : ∃ fd, FunD K "note_other" "State.note_other" (defArgs s_State_note_other) (defBody s_State_note_other) (defScope s_State_note_other) [] [] (He.fAd K ("State", some "note_other")) fd := by
  obtain ⟨h, X, G, s⟩ := T.ex
  exact s.d.def_ 25 (d := d_State_note_other) rfl
theorem D_State_is_held_other (T : Txt K mg) : ∃ fd, FunD K "is_held_other" "State.is_held_other" (defArgs s_State_is_held_other) (defBody s_State_is_held_other) (defScope s_State_is_held_other) [] [] (He.fAd K ("State", some "is_held_other")) fd := by
  obtain ⟨h, X, G, s⟩ := T.ex
  exact s.d.def_ 26 (d := d_State_is_held_other) rfl
theorem D_State_start (T : Txt K mg) : ∃ fd, FunD K "start" "State.start" (defArgs s_State_start) (defBody s_State_start) (defScope s_State_start) [] [] (He.fAd K ("State", some "start")) fd := by
  obtain ⟨h, X, G, s⟩ := T.ex
  exact s.d.def_ 27 (d := d_State_start) rfl
theorem D_State_hear (T : Txt K mg) : ∃ fd, FunD K "hear" "State.hear" (defArgs s_State_hear) (defBody s_State_hear) (defScope s_State_hear) [] [] (He.fAd K ("State", some "hear")) fd := by
  obtain ⟨h, X, G, s⟩ := T.ex
  exact s.d.def_ 28 (d := d_State_hear) rfl
theorem D_State_decide (T : Txt K mg) : ∃ fd, FunD K "decide" "State.decide" (defArgs s_State_decide) (defBody s_State_decide) (defScope s_State_decide) [] [] (He.fAd K ("State", some "decide")) fd := by
  obtain ⟨h, X, G, s⟩ := T.ex
  exact s.d.def_ 29 (d := d_State_decide) rfl
theorem D_State_following (T : Txt K mg) : ∃ fd, FunD K "following" "State.following" (defArgs s_State_following) (defBody s_State_following) (defScope s_State_following) [] [] (He.fAd K ("State", some "following")) fd := by
  obtain ⟨h, X, G, s⟩ := T.ex
  exact s.d.def_ 30 (d := d_State_following) rfl
theorem D_State_skip (T : Txt K mg) : ∃ fd, FunD K "skip" "State.skip" (defArgs s_State_skip) (defBody s_State_skip) (defScope s_State_skip) [] [] (He.fAd K ("State", some "skip")) fd := by
  obtain ⟨h, X, G, s⟩ := T.ex
  exact s.d.def_ 31 (d := d_State_skip) rfl
theorem D_State_jump (T : Txt K mg) : ∃ fd, FunD K "jump" "State.jump" (defArgs s_State_jump) (defBody s_State_jump) (defScope s_State_jump) [] [] (He.fAd K ("State", some "jump")) fd := by
  obtain ⟨h, X, G, s⟩ := T.ex
  exact s.d.def_ 32 (d := d_State_jump) rfl
theorem D_State_advance (T : Txt K mg) : ∃ fd, FunD K "advance" "State.advance" (defArgs s_State_advance) (defBody s_State_advance) (defScope s_State_advance) [] [] (He.fAd K ("State", some "advance")) fd := by
  obtain ⟨h, X, G, s⟩ := T.ex
  exact s.d.def_ 33 (d := d_State_advance) rfl
theorem D_State_happen (T : Txt K mg) : ∃ fd, FunD K "happen" "State.happen" (defArgs s_State_happen) (defBody s_State_happen) (defScope s_State_happen) [] [] (He.fAd K ("State", some "happen")) fd := by
  obtain ⟨h, X, G, s⟩ := T.ex
  exact s.d.def_ 34 (d := d_State_happen) rfl
theorem D_State_finish (T : Txt K mg) : ∃ fd, FunD K "finish" "State.finish" (defArgs s_State_finish) (defBody s_State_finish) (defScope s_State_finish) [] [] (He.fAd K ("State", some "finish")) fd := by
  obtain ⟨h, X, G, s⟩ := T.ex
  exact s.d.def_ 35 (d := d_State_finish) rfl
theorem D_State_tidy (T : Txt K mg) : ∃ fd, FunD K "tidy" "State.tidy" (defArgs s_State_tidy) (defBody s_State_tidy) (defScope s_State_tidy) [] [] (He.fAd K ("State", some "tidy")) fd := by
  obtain ⟨h, X, G, s⟩ := T.ex
  exact s.d.def_ 36 (d := d_State_tidy) rfl
theorem D_state_behind (T : Txt K mg) : ∃ fd, FunD K "state_behind" "state_behind" (defArgs s_state_behind) (defBody s_state_behind) (defScope s_state_behind) [] [] (He.fAd K ("state_behind", none)) fd := by
  obtain ⟨h, X, G, s⟩ := T.ex
  exact s.d.def_ 37 (d := d_state_behind) rfl
theorem D_counts_of (T : Txt K mg) : ∃ fd, FunD K "counts_of" "counts_of" (defArgs s_counts_of) (defBody s_counts_of) (defScope s_counts_of) [] [] (He.fAd K ("counts_of", none)) fd := by
  obtain ⟨h, X, G, s⟩ := T.ex
  exact s.d.def_ 38 (d := d_counts_of) rfl
theorem D_steps (T : Txt K mg) : ∃ fd, FunD K "steps" "steps" (defArgs s_steps) (defBody s_steps) (defScope s_steps) [] [] (He.fAd K ("steps", none)) fd := by
  obtain ⟨h, X, G, s⟩ := T.ex
  exact s.d.def_ 39 (d := d_steps) rfl
theorem D_count_steps (T : Txt K mg) : ∃ fd, FunD K "count_steps" "count_steps" (defArgs s_count_steps) (defBody s_count_steps) (defScope s_count_steps) [] [] (He.fAd K ("count_steps", none)) fd := by
  obtain ⟨h, X, G, s⟩ := T.ex
  exact s.d.def_ 40 (d := d_count_steps) rfl
theorem D_count_word (T : Txt K mg) : ∃ fd, FunD K "count_word" "count_word" (defArgs s_count_word) (defBody s_count_word) (defScope s_count_word) [] [] (He.fAd K ("count_word", none)) fd := by
  obtain ⟨h, X, G, s⟩ := T.ex
  exact s.d.def_ 41 (d := d_count_word) rfl
theorem D_all_runs (T : Txt K mg) : ∃ fd, FunD K "all_runs" "all_runs" (defArgs s_all_runs) (defBody s_all_runs) (defScope s_all_runs) [] [] (He.fAd K ("all_runs", none)) fd := by
  obtain ⟨h, X, G, s⟩ := T.ex
  exact s.d.def_ 42 (d := d_all_runs) rfl
theorem D_all_kinds (T : Txt K mg) : ∃ fd, FunD K "all_kinds" "all_kinds" (defArgs s_all_kinds) (defBody s_all_kinds) (defScope s_all_kinds) [] [] (He.fAd K ("all_kinds", none)) fd := by
  obtain ⟨h, X, G, s⟩ := T.ex
  exact s.d.def_ 43 (d := d_all_kinds) rfl
theorem D_many_marks (T : Txt K mg) : ∃ fd, FunD K "many_marks" "many_marks" (defArgs s_many_marks) (defBody s_many_marks) (defScope s_many_marks) [] [] (He.fAd K ("many_marks", none)) fd := by
  obtain ⟨h, X, G, s⟩ := T.ex
  exact s.d.def_ 44 (d := d_many_marks) rfl
theorem D_mark_of (T : Txt K mg) : ∃ fd, FunD K "mark_of" "mark_of" (defArgs s_mark_of) (defBody s_mark_of) (defScope s_mark_of) [] [] (He.fAd K ("mark_of", none)) fd := by
  obtain ⟨h, X, G, s⟩ := T.ex
  exact s.d.def_ 45 (d := d_mark_of) rfl
theorem D_runs_of (T : Txt K mg) : ∃ fd, FunD K "runs_of" "runs_of" (defArgs s_runs_of) (defBody s_runs_of) (defScope s_runs_of) [] [] (He.fAd K ("runs_of", none)) fd := by
  obtain ⟨h, X, G, s⟩ := T.ex
  exact s.d.def_ 46 (d := d_runs_of) rfl
theorem D_kinds_of (T : Txt K mg) : ∃ fd, FunD K "kinds_of" "kinds_of" (defArgs s_kinds_of) (defBody s_kinds_of) (defScope s_kinds_of) [] [] (He.fAd K ("kinds_of", none)) fd := by
  obtain ⟨h, X, G, s⟩ := T.ex
  exact s.d.def_ 47 (d := d_kinds_of) rfl
theorem D_count_marks (T : Txt K mg) : ∃ fd, FunD K "count_marks" "count_marks" (defArgs s_count_marks) (defBody s_count_marks) (defScope s_count_marks) [] [] (He.fAd K ("count_marks", none)) fd := by
  obtain ⟨h, X, G, s⟩ := T.ex
  exact s.d.def_ 48 (d := d_count_marks) rfl
theorem D_idle_from (T : Txt K mg) : ∃ fd, FunD K "idle_from" "idle_from" (defArgs s_idle_from) (defBody s_idle_from) (defScope s_idle_from) [] [] (He.fAd K ("idle_from", none)) fd := by
  obtain ⟨h, X, G, s⟩ := T.ex
  exact s.d.def_ 49 (d := d_idle_from) rfl
theorem D_nth_mark (T : Txt K mg) : ∃ fd, FunD K "nth_mark" "nth_mark" (defArgs s_nth_mark) (defBody s_nth_mark) (defScope s_nth_mark) [] [] (He.fAd K ("nth_mark", none)) fd := by
  obtain ⟨h, X, G, s⟩ := T.ex
  exact s.d.def_ 50 (d := d_nth_mark) rfl
theorem D_period (T : Txt K mg) : ∃ fd, FunD K "period" "period" (defArgs s_period) (defBody s_period) (defScope s_period) [] [] (He.fAd K ("period", none)) fd := by
  obtain ⟨h, X, G, s⟩ := T.ex
  exact s.d.def_ 51 (d := d_period) rfl
theorem D_law_spring (T : Txt K mg) : ∃ fd, FunD K "_law_spring" "_law_spring" (defArgs s_law_spring) (defBody s_law_spring) (defScope s_law_spring) [] [] (He.fAd K ("_law_spring", none)) fd := by
  obtain ⟨h, X, G, s⟩ := T.ex
  exact s.d.def_ 52 (d := d_law_spring) rfl
theorem D_law_draw (T : Txt K mg) : ∃ fd, FunD K "_law_draw" "_law_draw" (defArgs s_law_draw) (defBody s_law_draw) (defScope s_law_draw) [] [] (He.fAd K ("_law_draw", none)) fd := by
  obtain ⟨h, X, G, s⟩ := T.ex
  exact s.d.def_ 53 (d := d_law_draw) rfl
theorem D_law_rules (T : Txt K mg) : ∃ fd, FunD K "_law_rules" "_law_rules" (defArgs s_law_rules) (defBody s_law_rules) (defScope s_law_rules) [] [] (He.fAd K ("_law_rules", none)) fd := by
  obtain ⟨h, X, G, s⟩ := T.ex
  exact s.d.def_ 54 (d := d_law_rules) rfl
theorem D_law_step (T : Txt K mg) : ∃ fd, FunD K "_law_step" "_law_step" (defArgs s_law_step) (defBody s_law_step) (defScope s_law_step) [] [] (He.fAd K ("_law_step", none)) fd := by
  obtain ⟨h, X, G, s⟩ := T.ex
  exact s.d.def_ 55 (d := d_law_step) rfl
theorem D_law_record (T : Txt K mg) : ∃ fd, FunD K "_law_record" "_law_record" (defArgs s_law_record) (defBody s_law_record) (defScope s_law_record) [] [] (He.fAd K ("_law_record", none)) fd := by
  obtain ⟨h, X, G, s⟩ := T.ex
  exact s.d.def_ 56 (d := d_law_record) rfl
theorem D_law_many (T : Txt K mg) : ∃ fd, FunD K "_law_many" "_law_many" (defArgs s_law_many) (defBody s_law_many) (defScope s_law_many) [] [] (He.fAd K ("_law_many", none)) fd := by
  obtain ⟨h, X, G, s⟩ := T.ex
  exact s.d.def_ 57 (d := d_law_many) rfl
theorem D_law_groups (T : Txt K mg) : ∃ fd, FunD K "_law_groups" "_law_groups" (defArgs s_law_groups) (defBody s_law_groups) (defScope s_law_groups) [] [] (He.fAd K ("_law_groups", none)) fd := by
  obtain ⟨h, X, G, s⟩ := T.ex
  exact s.d.def_ 58 (d := d_law_groups) rfl
theorem D_law_counts_right (T : Txt K mg) : ∃ fd, FunD K "_law_counts_right" "_law_counts_right" (defArgs s_law_counts_right) (defBody s_law_counts_right) (defScope s_law_counts_right) [] [] (He.fAd K ("_law_counts_right", none)) fd := by
  obtain ⟨h, X, G, s⟩ := T.ex
  exact s.d.def_ 59 (d := d_law_counts_right) rfl
theorem D_law_listed_right (T : Txt K mg) : ∃ fd, FunD K "_law_listed_right" "_law_listed_right" (defArgs s_law_listed_right) (defBody s_law_listed_right) (defScope s_law_listed_right) [] [] (He.fAd K ("_law_listed_right", none)) fd := by
  obtain ⟨h, X, G, s⟩ := T.ex
  exact s.d.def_ 60 (d := d_law_listed_right) rfl
theorem D_law (T : Txt K mg) : ∃ fd, FunD K "law" "law" (defArgs s_law) (defBody s_law) (defScope s_law) [] [] (He.fAd K ("law", none)) fd := by
  obtain ⟨h, X, G, s⟩ := T.ex
  exact s.d.def_ 61 (d := d_law) rfl
theorem X_LEVERS (T : Txt K mg) (H : Hp) : SqT K H (He.ga K "LEVERS") [V.str "s", V.str "l"] := by
  obtain ⟨h, X, G, s⟩ := T.ex
  have e := s.e
  simp only [exB, Bool.and_eq_true] at e
  exact He.tupB_ok e.1 H
theorem X_REMEMBERS (T : Txt K mg) (H : Hp) : SqT K H (He.ga K "REMEMBERS") [V.str "none", V.str "press", V.str "held"] := by
  obtain ⟨h, X, G, s⟩ := T.ex
  have e := s.e
  simp only [exB, Bool.and_eq_true] at e
  exact He.tupB_ok e.2.1 H
theorem X_PREFERENCES (T : Txt K mg) (H : Hp) : SqT K H (He.ga K "PREFERENCES") [V.str "turn", V.str "stay", V.str "s", V.str "l"] := by
  obtain ⟨h, X, G, s⟩ := T.ex
  have e := s.e
  simp only [exB, Bool.and_eq_true] at e
  exact He.tupB_ok e.2.2.1 H
theorem X_STEP_WORDS (T : Txt K mg) (H : Hp) : SqT K H (He.ga K "STEP_WORDS") [V.str "press s", V.str "press l", V.str "release s", V.str "release l", V.str "begin s", V.str "begin l", V.str "hear", V.str "remember s", V.str "remember l", V.str "idle"] := by
  obtain ⟨h, X, G, s⟩ := T.ex
  have e := s.e
  simp only [exB, Bool.and_eq_true] at e
  exact He.tupB_ok e.2.2.2 H
end

/-! ### data -/
abbrev kv (k : Kd) : V := .str k.str
def Rl.vs (r : Rl) : List V := [.int r.s, .int r.l, .int r.p, .int r.d, .str r.rem.str, .bl r.ag, .str r.both.str]
abbrev evV (e : Ev) : List V := [.int e.1, kv e.2.1, .bl e.2.2]
section
variable {K : PySem.W.Frag}
theorem isi_int {H : Hp} {Q : VK} {i : Int} {n : String} {b : Bool} (e : PySem.W.kitOne K (.type "int") (.type n) = some b) (q : Q (.bl b) H) : rIsi K [.int i, .ty n] H Q := ⟨_, _, .type "int", .type n, b, rfl, .ty n, .base (.int i), e, q⟩
theorem isi_str {H : Hp} {Q : VK} {z : Str} {n : String} {b : Bool} (e : PySem.W.kitOne K (.type "str") (.type n) = some b) (q : Q (.bl b) H) : rIsi K [.str z, .ty n] H Q := ⟨_, _, .type "str", .type n, b, rfl, .ty n, .base (.str z), e, q⟩
theorem isi_bl {H : Hp} {Q : VK} {z : Bool} {n : String} {b : Bool} (e : PySem.W.kitOne K (.type "bool") (.type n) = some b) (q : Q (.bl b) H) : rIsi K [.bl z, .ty n] H Q := ⟨_, _, .type "bool", .type n, b, rfl, .ty n, .base (.bl z), e, q⟩
theorem isi_tup {H : Hp} {Q : VK} {a : Addr} {xs : List V} {n : String} {b : Bool} (h : SqT K H a xs) (e : PySem.W.kitOne K (.type "tuple") (.type n) = some b) (q : Q (.bl b) H) : rIsi K [.ref a, .ty n] H Q := by
  rcases h with (h | ⟨o, h⟩) | ⟨o, its, m, h, hc, _⟩
  · exact ⟨_, _, .type "tuple", .type n, b, rfl, .ty n, .base (.tup h), e, q⟩
  · exact ⟨_, _, .type "tuple", .type n, b, rfl, .ty n, .fTuple h, e, q⟩
  · exact ⟨_, _, .type "tuple", .type n, b, rfl, .ty n, .kTuple h hc, e, q⟩
theorem isi_lst {H : Hp} {Q : VK} {a : Addr} {xs : List V} {n : String} {b : Bool} (h : SqL K H a xs) (e : PySem.W.kitOne K (.type "list") (.type n) = some b) (q : Q (.bl b) H) : rIsi K [.ref a, .ty n] H Q := by
  rcases h with (h | ⟨o, h⟩) | ⟨o, its, m, h, hc, _⟩
  · exact ⟨_, _, .type "list", .type n, b, rfl, .ty n, .base (.lst h), e, q⟩
  · exact ⟨_, _, .type "list", .type n, b, rfl, .ty n, .base (.frz h), e, q⟩
  · exact ⟨_, _, .type "list", .type n, b, rfl, .ty n, .kList h hc, e, q⟩
theorem i_int_int {H : Hp} {Q : VK} {i : Int} (q : Q (.bl true) H) : rIsi K [.int i, .ty "int"] H Q := isi_int (kit_ty (by decide +kernel)) q
theorem i_int_bool {H : Hp} {Q : VK} {i : Int} (q : Q (.bl false) H) : rIsi K [.int i, .ty "bool"] H Q := isi_int (kit_ty (by decide +kernel)) q
theorem i_bl_bool {H : Hp} {Q : VK} {i : Bool} (q : Q (.bl true) H) : rIsi K [.bl i, .ty "bool"] H Q := isi_bl (kit_ty (by decide +kernel)) q
theorem i_str_str {H : Hp} {Q : VK} {i : Str} (q : Q (.bl true) H) : rIsi K [.str i, .ty "str"] H Q := isi_str (kit_ty (by decide +kernel)) q
theorem i_bl_int {H : Hp} {Q : VK} {i : Bool} (q : Q (.bl true) H) : rIsi K [.bl i, .ty "int"] H Q := isi_bl (kit_ty (by decide +kernel)) q
theorem i_tup_tuple {H : Hp} {Q : VK} {a : Addr} {xs : List V} (h : SqT K H a xs) (q : Q (.bl true) H) : rIsi K [.ref a, .ty "tuple"] H Q := isi_tup h (kit_ty (by decide +kernel)) q
theorem i_lst_list {H : Hp} {Q : VK} {a : Addr} {xs : List V} (h : SqL K H a xs) (q : Q (.bl true) H) : rIsi K [.ref a, .ty "list"] H Q := isi_lst h (kit_ty (by decide +kernel)) q
end
end Sq
end
section
set_option Elab.async false
set_option linter.all false
set_option maxRecDepth 100000
set_option maxHeartbeats 4000000
namespace Sq
open PySem PySem.Spec PyProof.Rows L2
namespace Hd
def names0 : List PySem.Str := ["_wall", "KeyerError", "InvalidLever", "InvalidNumber", "InvalidName", "InvalidRules", "InvalidRecord", "TooLarge", "LEVERS", "REMEMBERS", "PREFERENCES", "MOST_EVENTS", "is_integer", "is_one_of", "rules_flags", "require_rules", "is_event", "fault_of_record", "require_record", "require_lever", "require_index", "length_of", "period_of", "word_period", "other_of", "ALTERNATING", "Blocks", "tidy_kinds", "tidy_runs", "STEP_WORDS"]
def names1 : List PySem.Str := ["can_hear", "outcome", "State", "state_behind", "MOST_STEPS", "counts_of", "steps", "count_steps", "count_word", "all_runs", "all_kinds", "many_marks", "mark_of", "runs_of", "kinds_of", "count_marks", "idle_from", "nth_mark", "period", "_law_spring", "_law_draw", "_law_rules", "_law_step", "_law_record", "_law_many", "_law_groups", "_law_counts_right", "_law_listed_right"]
def names : List PySem.Str := names0 ++ (names1)
def lawAt : Nat := 66
abbrev R : PySem.W.OpenRow := PySem.W.OpenLaw.row PySem.Challenge.rw_squeezedkeyer_k86_whole_steps_and_runs
abbrev hk : PySem.W.Hook := hookP 2000 fa fn pn exB
def ob (s : PySem.W.SharedT) : AlP := obsPG 2000 fa fn pn exB (HandSHeadRun.getT s)
theorem run (w : World) : HandSHeadRun.RunEq R (PySem.W.view R.prog [66]) hk ob 60000 names w := by
  intro os
  kernel_rfl
theorem ob_eq (s : PySem.W.SharedT) : ob s = hk.obs s.abs := obsPG_eq (HandSHeadRun.getT_eq s)
end Hd
/-- the law's level, its promise -/
def lawK : Nat := 15
def spLaw (K : PySem.W.Frag) : Sp := fun vs H Q _ => ∃ (s : Addr) (is : List Int), vs = [.ref s] ∧ SqL K H s (is.map V.int) ∧ ∀ H', Q (.bl true) H'
/-- what the walk is to give -/
def WalkGives (P : Program) : Prop := ∀ {w : World} {K : PySem.W.Frag} {h : Heap} {mg : Str → Option Value} {f : Addr}, K.In h → h.Ns mainGlobals mg → mg ("law" : Str) = some (.ref f) → Says fa fn pn exB K →
    ∃ fd : FuncData, (∀ (s : Shared) (v : Value), BindsTo s fd ⟨[v], []⟩ [("script", v)]) ∧ ∀ base : Heap, K.In base → base.Ns mainGlobals mg → FnOk P w K mg base CX0 lawK f fd ["script"] (spLaw K)
end Sq
section
open PySem PySem.W PySem.Calls PyProof.Rows
theorem Sq.holds_of (W : Sq.WalkGives (PySem.Challenge.rw_squeezedkeyer_k86_whole_steps_and_runs).prog) : PySem.Challenge.rw_squeezedkeyer_k86_whole_steps_and_runs.Holds := by
  w_on; o_law
  refine HandSHeadRun.head_any (r := OpenLaw.row PySem.Challenge.rw_squeezedkeyer_k86_whole_steps_and_runs) (q := view (OpenLaw.row PySem.Challenge.rw_squeezedkeyer_k86_whole_steps_and_runs).prog [66]) (H := Sq.Hd.hk) (ob := Sq.Hd.ob) (M := 60000) (loose := Sq.Hd.names) (d := HandSHeadRun.topDef (OpenLaw.row PySem.Challenge.rw_squeezedkeyer_k86_whole_steps_and_runs).prog 66) (kwd := []) Sq.Hd.ob_eq
    (by kernel_rfl) (fun s => by kernel_rfl) Sq.Hd.run (by kernel_rfl) (by kernel_rfl) (by kernel_rfl) (by rfl) (by first | assumption | decide +kernel) (by decide +kernel) ⟨rfl, rfl, rfl, rfl, rfl, by decide +kernel⟩ ?hw ?hc
  case hw => w_witness2
  case hc =>
    refine L2.walk_ofE (l := PySem.Challenge.rw_squeezedkeyer_k86_whole_steps_and_runs) (n := 63) (k := Sq.lawK) (x := "script") (CX := L2.CX0) rfl (by decide) (by kernel_rfl) ⟨rfl, by decide, by decide⟩ ?F (fun _ _ _ _ z => z)
    intro w mg fa h Y G hmg0
    obtain ⟨K, KX, c⟩ := Y
    have hmg : mg ("law" : PySem.Str) = some (.ref fa) := by
      have e : (HandSHeadRun.topDef (OpenLaw.row PySem.Challenge.rw_squeezedkeyer_k86_whole_steps_and_runs).prog 66).name = ("law" : PySem.Str) := by kernel_rfl
      rw [← e]
      exact hmg0
    obtain ⟨fd, hb, hF⟩ := W (w := w) KX G hmg c
    exact ⟨K, fd, Sq.spLaw K, KX, hb, fun H a ns hl _ hS => ⟨a, ns, rfl, hS, fun _ => rfl⟩, hF⟩
end
end
section
set_option Elab.async false
set_option linter.all false
set_option maxRecDepth 100000
set_option maxHeartbeats 4000000
/-! A part of the heap: a call that looks at it alone leaves all the rest. -/
namespace Sq
open PySem PySem.Spec PyProof.Rows L2
/-- no dict by tuples -/
def noDT : HO → Bool
  | .dT _ => false
  | .frz _ u => noDT u
  | _ => true
/-- the dict of an instance -/
def dictOf : HO → Option Addr
  | .ins _ dx _ => some dx
  | .frz _ u => dictOf u
  | _ => none
/-- each instance has its own dict -/
def Owned (H : Hp) : Prop := ∀ a o dx, H a = some o → dictOf o = some dx → H dx = some (.own a) ∧ dx ≠ a
structure Sub (Z H : Hp) : Prop where
  s : Same Z H
  i1 : ∀ a o dx, Z a = some o → dictOf o = some dx → Z dx ≠ none
  i2 : ∀ a o dx, Z a = none → H a = some o → dictOf o = some dx → Z dx = none
  dT : ∀ a o, Z a = some o → noDT o = true
/-- what lies behind a call that looked at Z alone -/
structure Beh (Z H Z' H' : Hp) : Prop where
  ow : Owned Z'
  s : Same Z' H'
  out : ∀ a o, Z a = none → H a = some o → H' a = some o
  new : ∀ a, Z' a ≠ none → Z a ≠ none ∨ H a = none
  tup : STup H H'
def frameSp (sp : Sp) : Sp := fun vs H Q E => ∃ Z, (Owned H → Sub Z H) ∧ sp vs Z (fun v Z' => ∀ H', Beh Z H Z' H' → Q v H') E
section
variable {P : Program} {w : World} {h h' : Heap} {Z H Z' : Hp}
theorem obj_there {a : Addr} : ∀ {o : HO}, ObjOk P w H h a o → ∃ ob, h.get? a = some ob
  | .lst _, ⟨_, _, _, _, e⟩ => ⟨_, e⟩
  | .tup _, ⟨_, _, _, p⟩ => by obtain ⟨ob, e, _⟩ := p; exact ⟨_, e⟩
  | .dK _, ⟨_, _, _, _, o, _, _, e, _⟩ => ⟨_, e⟩
  | .dT _, ⟨_, _, _, _, o, _, _, e, _⟩ => ⟨_, e⟩
  | .set _ _, x => by obtain ⟨o, _, _, _, e, _⟩ := x; exact ⟨_, e⟩
  | .ins _ _ _, ⟨_, _, _, e, _⟩ => ⟨_, e⟩
  | .own _, ⟨_, e⟩ => ⟨_, e⟩
  | .xd _, ⟨_, ⟨_, _, _, e, _⟩, _⟩ => ⟨_, e⟩
  | .rng _ _, ⟨_, _, _, e⟩ => ⟨_, e⟩
  | .frz _ _, ⟨e, _⟩ => ⟨_, e⟩
  | .tbl _, x => ⟨_, (x : h.get? a = some _)⟩
  | .met _ _, x => ⟨_, (x : h.get? a = some _)⟩
  | .ext _, ⟨_, ⟨_, e⟩, _⟩ => ⟨_, e⟩
theorem obj_own {a dx : Addr} : ∀ {o : HO}, dictOf o = some dx → ObjOk P w H h a o → H dx = some (.own a) ∧ dx ≠ a
  | .ins _ _ _, e, ⟨d, _, ne, _⟩ => by cases e; exact ⟨d, ne⟩
  | .frz _ u, e, ⟨_, q⟩ => obj_own (o := u) e q
theorem owned_of (x : HOk P w H h) : Owned H := fun a o dx e d => obj_own d (x a o e)
theorem obj_part {a : Addr} : ∀ {o : HO}, (∀ dx, dictOf o = some dx → Z dx = some (.own a)) → noDT o = true → ObjOk P w H h a o → ObjOk P w Z h a o
  | .lst _, _, _, x => x
  | .tup _, _, _, x => x
  | .dK _, _, _, x => x
  | .dT kvs, _, n, _ => by cases n
  | .set _ _, _, _, x => x
  | .ins C dx fs, ho, _, ⟨_, z⟩ => ⟨ho dx rfl, z⟩
  | .own _, _, _, x => x
  | .xd _, _, _, x => x
  | .rng _ _, _, _, x => x
  | .frz o u, ho, n, ⟨e, q⟩ => ⟨e, obj_part (o := u) ho n q⟩
  | .tbl _, _, _, x => x
  | .met _ _, _, _, x => x
  | .ext _, _, _, x => x
/-- an object stays, by its own object and its dict -/
theorem obj_stay {H' : Hp} {a : Addr} (k : ∀ u, h.get? a = some u → h'.get? a = some u) (ht : ∀ b xs, H b = some (.tup xs) → H' b = some (.tup xs)) :
    ∀ {o : HO}, (∀ dx, dictOf o = some dx → H' dx = some (.own a) ∧ ∀ u, h.get? dx = some u → h'.get? dx = some u) → ObjOk P w H h a o → ObjOk P w H' h' a o := by
  intro o hd x
  induction o with
  | lst xs => obtain ⟨z, its, n, r, e⟩ := x; exact ⟨z, its, n, r, k _ e⟩
  | tup xs => obtain ⟨z, its, r, ob, e, c⟩ := x; exact ⟨z, its, r, ob, k _ e, c⟩
  | dK kvs => obtain ⟨z, y, vs, r, ob, es, ep, e, c⟩ := x; exact ⟨z, y, vs, r, ob, es, ep, k _ e, c⟩
  | dT kvs =>
    obtain ⟨z, y, xs, r, ob, es, ep, e, c⟩ := x
    exact ⟨z, y, xs, Paired.mapP r fun p q z => ⟨z.1, ht _ _ z.2.1, z.2.2⟩, ob, es, ep, k _ e, c⟩
  | set S n => obtain ⟨ob, es, ep, t, e, c⟩ := x; exact ⟨ob, es, ep, t, k _ e, c⟩
  | ins C dx fs =>
    obtain ⟨d, z, ne, e, mA, ⟨od, es, ep, e2, c⟩, r⟩ := x
    obtain ⟨h1, h2⟩ := hd dx rfl
    exact ⟨h1, z, ne, k _ e, mA, ⟨od, es, ep, h2 _ e2, c⟩, r⟩
  | own y => obtain ⟨ob, e⟩ := x; exact ⟨ob, k _ e⟩
  | xd fs => obtain ⟨mA, ⟨od, es, ep, e, c⟩, r⟩ := x; exact ⟨mA, ⟨od, es, ep, k _ e, c⟩, r⟩
  | rng lo hi => obtain ⟨t, u, v, e⟩ := x; exact ⟨t, u, v, k _ e⟩
  | frz ob u ih => obtain ⟨e, q⟩ := x; exact ⟨k _ e, ih hd q⟩
  | tbl ps =>
    have e : h.get? a = some { cls := .none, data := .fields ps } := x
    show h'.get? a = some { cls := .none, data := .fields ps }
    exact k _ e
  | met f y =>
    have e : h.get? a = some (PySem.W.methodObj (.ref f) (.ref y)) := x
    show h'.get? a = some (PySem.W.methodObj (.ref f) (.ref y))
    exact k _ e
  | ext φ => obtain ⟨p, ⟨o, e⟩, st⟩ := x; exact ⟨st _ _ p fun o q => k _ q, ⟨o, k _ e⟩, st⟩
theorem Sub.hok (S : Sub Z H) (x : HOk P w H h) : HOk P w Z h := fun a o e => obj_part (fun dx d => by
  have h1 := S.i1 a o dx e d
  have h2 := (owned_of x a o dx (S.s _ _ e) d).1
  cases e2 : Z dx with
  | none => exact absurd e2 h1
  | some o2 =>
    have := S.s _ _ e2
    rw [h2] at this
    exact this.symm ▸ rfl) (S.dT a o e) (x a o (S.s _ _ e))
theorem Sub.free (S : Sub Z H) {a : Addr} (e : H a = none) : Z a = none := Same.free' S.s e
/-- what was looked at, as it is now, and all the rest -/
def cup (Z H Z' : Hp) : Hp := fun a => match Z' a with
  | some o => some o
  | none => match Z a with
    | some _ => none
    | none => H a
theorem cup_l {a : Addr} {o : HO} (e : Z' a = some o) : cup Z H Z' a = some o := by unfold cup; rw [e]
theorem cup_r {a : Addr} (e : Z' a = none) (e2 : Z a = none) : cup Z H Z' a = H a := by unfold cup; rw [e, e2]
theorem cup_n {a : Addr} {o : HO} (e : Z' a = none) (e2 : Z a = some o) : cup Z H Z' a = none := by unfold cup; rw [e, e2]
section
variable {fs : List Addr} (S : Sub Z H) (x : HOk P w H h) (u : Un fs [] Z Z' h h')
theorem out_free {a : Addr} {o : HO} (S : Sub Z H) (x : HOk P w H h) (u : Un fs [] Z Z' h h') (e : Z a = none) (eh : H a = some o) : Z' a = none := by
  obtain ⟨ob, q⟩ := obj_there (x a o eh)
  exact u.free a ob q e (by simp)
theorem un_cup (S : Sub Z H) (x : HOk P w H h) (u : Un fs [] Z Z' h h') : Un fs [] H (cup Z H Z') h h' := by
  refine ⟨fun b o e n f g => u.keep b o e (S.free n) f g, fun b o e n f g => u.slot b o e (S.free n) f g, fun b o e n g => ?_, u.there, ?_, ?_, ?_⟩
  · have h1 := u.free b o e (S.free n) g
    rw [cup_r h1 (S.free n)]
    exact n
  · intro b xs e
    cases hz : Z b with
    | none => rw [cup_r (out_free S x u hz e) hz]; exact e
    | some o =>
      have := S.s _ _ hz
      rw [e] at this
      cases this
      exact cup_l (u.tups _ _ hz)
  · intro b o v e
    cases hz : Z b with
    | none => rw [cup_r (out_free S x u hz e) hz]; exact e
    | some o =>
      have := S.s _ _ hz
      rw [e] at this
      cases this
      exact cup_l (u.frzs _ _ _ hz)
  · intro b ps e
    cases hz : Z b with
    | none => exact ⟨#[], by rw [cup_r (out_free S x u hz e) hz, e]; simp⟩
    | some o =>
      have := S.s _ _ hz
      rw [e] at this
      cases this
      obtain ⟨more, e2⟩ := u.tbls _ _ hz
      exact ⟨more, cup_l e2⟩
theorem hok_cup (S : Sub Z H) (x : HOk P w H h) (u : Un fs [] Z Z' h h') (y : HOk P w Z' h') (hf : ∀ b ∈ fs, H b = none) : HOk P w (cup Z H Z') h' := fun a o e => by
  cases e1 : Z' a with
  | some o1 =>
    rw [cup_l e1] at e
    cases e
    exact (y a o e1).stay (fun _ _ _ q => q) (fun b q => cup_l q) fun b xs q => cup_l q
  | none =>
    cases e2 : Z a with
    | some o2 => rw [cup_n e1 e2] at e; cases e
    | none =>
      rw [cup_r e1 e2] at e
      have kp : ∀ b, Z b = none → H b ≠ none → ∀ v, h.get? b = some v → h'.get? b = some v := fun b hb hh v q => u.keep b v q hb (fun hm => hh (hf b hm)) (by simp)
      refine obj_stay (kp a e2 (by rw [e]; simp)) (fun b xs q => (un_cup S x u).tups _ _ q) (fun dx d => ?_) (x a o e)
      have h1 := (obj_own d (x a o e)).1
      have hz := S.i2 a o dx e2 e d
      refine ⟨?_, kp dx hz (by rw [h1]; simp)⟩
      rw [cup_r (out_free S x u hz h1) hz]
      exact h1
end
theorem env_part {K : PySem.W.Frag} {mg : Str → Option Value} {base : Heap} {A : Around} {outer : List Env} {s : Shared} (S : Sub Z H) (e : Env0 P w K mg base A outer s H) : Env0 P w K mg base A outer s Z :=
  ⟨e.frames, e.mod, fun b o q => ⟨(e.bs b o q).1, S.free (e.bs b o q).2⟩, e.bsz, e.funs, fun b hb => S.free (e.frf b hb), S.hok e.hok, e.bare⟩
theorem fn_frame {K : PySem.W.Frag} {mg : Str → Option Value} {base : Heap} {k : Nat} {f : Addr} {fd : FuncData} {ps : List Str} {sp : Sp} (F : FnOk P w K mg base C8.CX0 k f fd ps sp) : FnOk P w K mg base C8.CX0 k f fd ps (frameSp sp) := by
  refine ⟨fun vs H Q E ⟨Z, _, h⟩ => F.len _ _ _ _ h, fun A outer s H args us vs Q E hr he hb hv h => ?_⟩
  obtain ⟨Z, S, h⟩ := h
  have S := S (owned_of he.hok)
  refine codeAny_mono (F.run A outer s Z args us vs _ E hr (env_part S he) hb hv h) fun r s' hq => ?_
  cases r with
  | error e => exact hq
  | ok fl =>
    cases fl with
    | ret u =>
      obtain ⟨v, Z', h1, h2, h3, h4, h5, h6⟩ := hq
      refine ⟨v, cup Z H Z', h1, h2, un_cup S he.hok h3, hok_cup S he.hok h3 h4 he.frf, h5, h6 _ ⟨owned_of h4, fun a o e => cup_l e, fun a o e1 e2 => ?_, fun a ha => ?_, (un_cup S he.hok h3).tups⟩⟩
      · rw [cup_r (out_free S he.hok h3 e1 e2) e1]
        exact e2
      · cases e1 : Z a with
        | some o => exact .inl (by simp)
        | none =>
          right
          cases e2 : H a with
          | none => rfl
          | some o => exact absurd (out_free S he.hok h3 e1 e2) ha
    | next => exact hq
    | brk => exact hq
    | cont => exact hq
variable {K : PySem.W.Frag} {mg : Str → Option Value} {base : Heap} {k : Nat} {C : Addr} {x : Str} {sp : Sp} {dvs : List V}
theorem cal_frame (c : C8.Cal P w K mg base k x sp dvs) : C8.Cal P w K mg base k x (frameSp sp) dvs := by
  obtain ⟨f, fd, ps, ds, F, r⟩ := c.ex
  exact ⟨f, fd, ps, ds, fn_frame F, r⟩
theorem met_frame (c : C8.Met P w K mg base k C x sp dvs) : C8.Met P w K mg base k C x (frameSp sp) dvs := by
  obtain ⟨f, fd, ps, ds, h1, h2, F, r⟩ := c.ex
  exact ⟨f, fd, ps, ds, h1, h2, fn_frame F, r⟩
theorem mak_frame (c : C8.Mak P w K mg base k x C sp dvs) : C8.Mak P w K mg base k x C (frameSp sp) dvs := by
  obtain ⟨f, fd, ps, ds, h1, F, r⟩ := c.ex
  exact ⟨f, fd, ps, ds, h1, fn_frame F, r⟩
theorem prp_frame (c : Prp P w K mg base k C x sp) : Prp P w K mg base k C x (frameSp sp) := by
  obtain ⟨p, g, fd, ps, h1, h2, F, r⟩ := c.ex
  exact ⟨p, g, fd, ps, h1, h2, fn_frame F, r⟩
end
/-! ### a part that stands for itself -/
/-- all but dicts of their own, and dicts by tuples -/
def NO (H Z : Hp) : Prop := ∀ a o, H a = some o → (∀ x, o ≠ .own x) → noDT o = true → Z a = some o
/-- whether a thing at b stays -/
def nrmB (Z : Hp) (b : Addr) (o : HO) : Bool := match o with
  | .own a => (match Z a with
    | some u => decide (dictOf u = some b) && noDT u
    | none => false)
  | o => noDT o
def nrm (Z : Hp) : Hp := fun b => match Z b with
  | some o => if nrmB Z b o = true then some o else none
  | none => none
theorem nrm_at {Z : Hp} {b : Addr} {o : HO} (h : nrm Z b = some o) : Z b = some o ∧ nrmB Z b o = true := by
  unfold nrm at h
  cases e : Z b with
  | none => rw [e] at h; cases h
  | some u =>
    rw [e] at h
    simp only at h
    by_cases q : nrmB Z b u = true
    · rw [if_pos q] at h
      cases h
      exact ⟨rfl, q⟩
    · rw [if_neg q] at h
      cases h
theorem nrm_of {Z : Hp} {b : Addr} {o : HO} (h : Z b = some o) (q : nrmB Z b o = true) : nrm Z b = some o := by
  unfold nrm
  rw [h]
  exact if_pos q
theorem nrm_same {Z : Hp} : Same (nrm Z) Z := fun a o h => (nrm_at h).1
theorem nrmB_plain {Z : Hp} {b : Addr} {o : HO} (n : ∀ x, o ≠ .own x) : nrmB Z b o = noDT o := by
  cases o with
  | own x => exact absurd rfl (n x)
  | _ => rfl
theorem nrm_no {Z : Hp} : NO Z (nrm Z) := fun a o h n d => nrm_of h (by rw [nrmB_plain n]; exact d)
theorem dict_plain {o : HO} {dx : Addr} (h : dictOf o = some dx) : ∀ x, o ≠ .own x := fun x e => by subst e; cases h
theorem nrm_sub {Z H : Hp} (s : Same Z H) (oZ : Owned Z) (oH : Owned H) : Sub (nrm Z) H := by
  have nd : ∀ a o, nrm Z a = some o → noDT o = true := fun a o h => by
    have := (nrm_at h).2
    cases o with
    | own x => rfl
    | _ => exact this
  refine ⟨nrm_same.trans s, fun a o dx h d => ?_, fun a o dx h1 h2 d => ?_, nd⟩
  · have e := nrm_same _ _ h
    have e2 := (oZ a o dx e d).1
    rw [nrm_of e2 (by
      show (match Z a with
        | some u => decide (dictOf u = some dx) && noDT u
        | none => false) = true
      rw [e]
      simp [d, nd a o h])]
    simp
  · have e2 := (oH a o dx h2 d).1
    cases e : nrm Z dx with
    | none => rfl
    | some u =>
      exfalso
      obtain ⟨e4, q⟩ := nrm_at e
      have e3 := s _ _ e4
      rw [e2] at e3
      cases e3
      have q2 : (match Z a with
        | some u => decide (dictOf u = some dx) && noDT u
        | none => false) = true := q
      cases e5 : Z a with
      | none => rw [e5] at q2; cases q2
      | some o2 =>
        rw [e5] at q2
        have e6 := s _ _ e5
        rw [h2] at e6
        cases e6
        rw [nrm_no a o e5 (dict_plain d) (Bool.and_eq_true_iff.mp q2).2] at h1
        cases h1
/-- a call in a part that stands for itself -/
theorem fr_call {sp : Sp} {vs : List V} {H Z : Hp} {Q : VK} {E : XK} (sZ : Same Z H) (oZ : Owned Z) (h : ∀ Z0, Same Z0 Z → NO Z Z0 → sp vs Z0 (fun v Z' => ∀ H', Beh Z0 H Z' H' → Q v H') E) : frameSp sp vs H Q E :=
  ⟨nrm Z, fun oH => nrm_sub sZ oZ oH, h (nrm Z) nrm_same nrm_no⟩
theorem Beh.other {Z0 Z H Z' H' Y : Hp} (b : Beh Z0 H Z' H') (s0 : Same Z0 Z) (sY : Same Y H) (dis : ∀ a, Z a = none ∨ Y a = none) (sZ : Same Z H) : Same Y H' ∧ ∀ a, Z' a = none ∨ Y a = none := by
  have key : ∀ a, Y a ≠ none → Z0 a = none := fun a h => by
    rcases dis a with e | e
    · exact Same.free' s0 e
    · exact absurd e h
  refine ⟨fun a o h => b.out a o (key a (by rw [h]; simp)) (sY _ _ h), fun a => ?_⟩
  by_cases h : Z' a = none
  · exact .inl h
  · right
    rcases b.new a h with h2 | h2
    · cases e : Y a with
      | none => rfl
      | some o => exact absurd (key a (by rw [e]; simp)) h2
    · exact Same.free' sY h2
end Sq
end
section
set_option Elab.async false
set_option linter.all false
set_option maxRecDepth 100000
set_option maxHeartbeats 4000000
set_option exponentiation.threshold 2000
/-! Texts: numbers, words, commands. -/
namespace Sq
open PySem PySem.Spec PyProof.Rows L2
open SX (S S_tl S_inj S_len S_cat)
abbrev nS (i : Int) : Str := Str.ofString (toString i)
/-- the signs of a whole number -/
def numC : Int → List Nat
  | .ofNat n => TL.numL n
  | .negSucc n => 45 :: TL.numL (n + 1)
theorem tl_nat (n : Nat) : (toString ((n : Nat) : Int)).toList.map Char.toNat = TL.numL n := by
  rw [← TL.tl_ofString]
  exact TL.tl_num n
theorem nS_tl (i : Int) : TL.tl (nS i) = numC i := by
  cases i with
  | ofNat n => exact TL.tl_num n
  | negSucc n =>
    have e : toString (Int.negSucc n) = "-" ++ toString (((n + 1 : Nat) : Nat) : Int) := rfl
    show TL.tl (Str.ofString (toString (Int.negSucc n))) = _
    rw [TL.tl_ofString, e, String.toList_append, List.map_append, tl_nat]
    rfl
theorem nS_S (i : Int) : nS i = S (numC i) := TL.ext_tl (nS_tl i)
theorem numC_abs (i : Int) : (i < 0 ∧ numC i = 45 :: TL.numL i.natAbs) ∨ (0 ≤ i ∧ numC i = TL.numL i.natAbs) := by
  cases i with
  | ofNat n => exact .inr ⟨Int.natCast_nonneg n, rfl⟩
  | negSucc n => exact .inl ⟨Int.negSucc_lt_zero n, rfl⟩
theorem numC_len {i : Int} {k : Nat} (hk : 0 < k) (h : i.natAbs < 10 ^ k) : (numC i).length ≤ k + 1 := by
  have := TL.numL_len hk h
  rcases numC_abs i with ⟨_, e⟩ | ⟨_, e⟩ <;> rw [e]
  · rw [List.length_cons]; omega
  · omega
theorem numC_free {i : Int} {s : Nat} (h : s < 45 ∨ 57 < s) : s ∉ numC i := fun hm => by
  rcases numC_abs i with ⟨_, e⟩ | ⟨_, e⟩ <;> rw [e] at hm
  · rcases List.mem_cons.mp hm with rfl | hm
    · omega
    · exact TL.numL_free (by omega) hm
  · exact TL.numL_free (by omega) hm
theorem numC_ne (i : Int) : numC i ≠ [] := by
  rcases numC_abs i with ⟨_, e⟩ | ⟨_, e⟩ <;> rw [e]
  · simp
  · exact TL.numL_ne _
theorem int_nS {i : Int} (h : i.natAbs < 10 ^ 600) : intText? (nS i) = some i := by
  have hl := TL.numL_len (k := 600) (by decide) h
  have hv := TL.numL_val i.natAbs
  rcases numC_abs i with ⟨hi, e⟩ | ⟨hi, e⟩
  · rw [intText_neg (x := nS i) (cs := TL.numL i.natAbs) ((nS_tl i).trans e) (TL.numL_digits _) (TL.numL_ne _) (by rw [TL.len_tl, nS_tl, e, List.length_cons]; omega), hv]
    congr 1
    omega
  · have e2 : (nS i).cps.toList = TL.numL i.natAbs := (nS_tl i).trans e
    rw [intText_digits (x := nS i) (by rw [e2]; exact TL.numL_digits _) (by rw [e2]; exact TL.numL_ne _) (by rw [TL.len_tl, nS_tl, e]; omega), e2, hv]
    congr 1
    omega
theorem nS_len {i : Int} {k : Nat} (hk : 0 < k) (h : i.natAbs < 10 ^ k) : (nS i).length ≤ k + 1 := by
  rw [TL.len_tl, nS_tl]
  exact numC_len hk h
theorem nS_len2 {i : Int} (h : i.natAbs < 2 ^ 800) : (nS i).length ≤ 242 := nS_len (k := 241) (by decide) (Nat.lt_trans h (by decide +kernel))
theorem log_of {i : Int} {k : Nat} (h : i.natAbs < 2 ^ k) (hk : k ≤ 1920) : i.natAbs.log2 < 1920 := by
  by_cases h0 : i.natAbs = 0
  · rw [h0]; decide
  · exact Nat.lt_of_lt_of_le ((Nat.log2_lt h0).mpr h) hk
/-- the first sign of a number that is not 0 -/
theorem numL_head {n : Nat} (h : n ≠ 0) : ∃ c r, TL.numL n = c :: r ∧ c ≠ 48 := by
  induction n using Nat.strongRecOn with
  | _ n ih =>
    by_cases h1 : n < 10
    · exact ⟨48 + n, [], TL.numL_lt h1, by omega⟩
    · obtain ⟨c, r, e, hc⟩ := ih (n / 10) (by omega) (by omega)
      exact ⟨c, r ++ [48 + n % 10], by rw [TL.numL_step (by omega), e]; rfl, hc⟩
/-! ### words -/
theorem split_words {ws : List (List Nat)} (hn : ws ≠ []) (h : ∀ p ∈ ws, 32 ∉ p) : Txt.split (S (TL.joinL [32] ws)) (S [32]) = ws.map S := by
  rw [SX.split_S (by simp) (by decide), SX.spl_join hn h]
theorem part_word {p q : List Nat} (h : 32 ∉ p) : Txt.partition (S (p ++ 32 :: q)) (S [32]) = (S p, S [32], S q) := SX.partition_some (by simp) (SX.par_head q h)
theorem part_one {p : List Nat} (h : 32 ∉ p) : Txt.partition (S p) (S [32]) = (S p, S [32], S []) → False := fun e => by
  rw [SX.partition_none (by simp) (SX.par_head_none h)] at e
  have := congrArg (fun z => z.2.1) e
  exact absurd (S_inj this) (by decide)
theorem part_none {p : List Nat} (h : 32 ∉ p) : Txt.partition (S p) (S [32]) = (S p, S [], S []) := SX.partition_none (by simp) (SX.par_head_none h)
theorem join_words (ws : List (List Nat)) : Txt.join (S [32]) (ws.map S) = S (TL.joinL [32] ws) := SX.join_S _ _
theorem space_S : (" " : Str) = S [32] := by decide +kernel
theorem empty_S : ("" : Str) = S [] := by decide +kernel
theorem joinL_cons2 (sep p q : List Nat) (r : List (List Nat)) : TL.joinL sep (p :: q :: r) = p ++ (sep ++ TL.joinL sep (q :: r)) := rfl
/-! ### readings -/
section
variable {H : Hp} {Q : VK} {K : PySem.W.Frag} {σ : L2.St}
theorem r_slX {z : Str} {lo hi : Option Int} (h : z.length ≤ sizeLine) (q : Q (.str (Txt.slice z lo hi)) H) : C8.rSlX (.str z) lo hi H Q := ⟨z, rfl, h, q⟩
theorem r_all {a : Addr} {bs : List Bool} (h : SqL K H a (bs.map V.bl)) (q : Q (.bl (bs.all id)) H) : rAll K [.ref a] H Q := ⟨a, bs, rfl, h, q⟩
theorem r_strMem {te : TE} {P : V → Hp → Prop} {z : Str} (h : te σ H P) : (∃ a, V.str z = .str a) ∧ te σ H P := ⟨⟨z, rfl⟩, h⟩
theorem r_jn {σ : L2.St} {acc : Str} {Q : Str → Hp → Prop} (q : Q acc H) : tJs [] acc σ H Q := q
theorem r_jc {t : TE} {ts : List TE} {acc : Str} {σ : L2.St} {Q : Str → Hp → Prop} (h : t σ H fun x H1 => ∃ y : Str, x = .str y ∧ (acc ++ y).length ≤ sizeLine ∧ tJs ts (acc ++ y) σ H1 Q) : tJs (t :: ts) acc σ H Q := h
theorem r_jy {y acc : Str} {P : Str → Prop} (hl : (acc ++ y).length ≤ sizeLine) (q : P y) : ∃ z : Str, V.str y = .str z ∧ (acc ++ z).length ≤ sizeLine ∧ P z := ⟨y, rfl, hl, q⟩
theorem r_fS {te : TE} (h : te σ H fun x H1 => (∃ y : Str, x = .str y ∧ y.length ≤ sizeLine ∧ Q (.str y) H1) ∨ ∃ i : Int, x = .int i ∧ i.natAbs.log2 < 1920 ∧ Q (.str (toString i)) H1) : tFmt te σ H Q := h
theorem r_fStr {y : Str} {P : Str → Prop} {R : Int → Prop} (h : y.length ≤ sizeLine) (q : P y) : (∃ z : Str, V.str y = .str z ∧ z.length ≤ sizeLine ∧ P z) ∨ ∃ i : Int, V.str y = .int i ∧ i.natAbs.log2 < 1920 ∧ R i := .inl ⟨y, rfl, h, q⟩
theorem r_fInt {i : Int} {P : Str → Prop} {R : Int → Prop} (h : i.natAbs.log2 < 1920) (q : R i) : (∃ z : Str, V.int i = .str z ∧ z.length ≤ sizeLine ∧ P z) ∨ ∃ j : Int, V.int i = .int j ∧ j.natAbs.log2 < 1920 ∧ R j := .inr ⟨i, rfl, h, q⟩
/-- str(x) of a text or of a whole number -/
def rStrA : List V → Hp → VK → Prop := fun xs H Q => (∃ i, xs = [.int i] ∧ i.natAbs.log2 < 1920 ∧ Q (.str (toString i)) H) ∨ ∃ a, xs = [.str a] ∧ Q (.str a) H
theorem cq_strA {X : Cx} : CallR X (.type "str") rStrA := by
  intro pins s σ H vs us Q I r h
  rcases h with h | h
  · exact call_str_int pins s σ H vs us Q I r h
  · exact SkE.call_str_str pins s σ H vs us Q I r h
theorem r_strAi {i : Int} (h : i.natAbs.log2 < 1920) (q : Q (.str (nS i)) H) : rStrA [.int i] H Q := .inl ⟨i, rfl, h, q⟩
theorem r_strAs {a : Str} (q : Q (.str a) H) : rStrA [.str a] H Q := .inr ⟨a, rfl, q⟩
end
theorem dec_str {a b : Str} : decide (V.str a = V.str b) = decide (a = b) := by
  by_cases h : a = b
  · rw [decide_eq_true h, decide_eq_true (congrArg V.str h)]
  · rw [decide_eq_false h, decide_eq_false fun e => h (V.str.inj e)]
theorem S_ne {a b : List Nat} (h : a ≠ b) : S a ≠ S b := fun e => h (S_inj e)
end Sq
end
section
set_option Elab.async false
set_option linter.all false
set_option maxRecDepth 100000
set_option maxHeartbeats 4000000
set_option exponentiation.threshold 2000
/-! Begins of tidy runs are of a moderate size. -/
namespace Sq
open PySem PyProof.Rows
theorem addG_begin {y : Wd × Int} : ∀ {gs : List Grp}, ∀ g ∈ addG y gs, ∃ g' ∈ gs, g'.1 = g.1
  | [], g, h => by cases h
  | (b, ks) :: gs, g, h => by
    rcases List.mem_cons.mp h with rfl | h
    · exact ⟨_, List.mem_cons_self .., rfl⟩
    · exact ⟨g, List.mem_cons_of_mem _ h, rfl⟩
theorem openG_begin {b : Int} {last : Option Int} {gs : List Grp} : ∀ g ∈ openG b last gs, g.1 = b ∨ g ∈ gs := fun g h => by
  unfold openG at h
  split at h
  · rcases List.mem_cons.mp h with rfl | h
    · exact .inl rfl
    · exact .inr h
  · split at h
    · rcases List.mem_cons.mp h with rfl | h
      · exact .inl rfl
      · exact .inr h
    · exact .inr h
theorem groupsGo_begin {r : Rl} : ∀ {xs : List Run} {last : Option Int} {gs : List Grp}, ∀ g ∈ groupsGo r xs last gs, (∃ x ∈ xs, x.1 = g.1) ∨ ∃ g' ∈ gs, g'.1 = g.1
  | [], _, _, g, h => .inr ⟨g, h, rfl⟩
  | x :: xs, last, gs, g, h => by
    rw [groupsGo_cons] at h
    rcases groupsGo_begin g h with ⟨y, hy, e⟩ | ⟨g', hg, e⟩
    · exact .inl ⟨y, List.mem_cons_of_mem _ hy, e⟩
    · obtain ⟨g2, h2, e2⟩ := addG_begin g' hg
      rcases openG_begin g2 h2 with e3 | h3
      · exact .inl ⟨x, List.mem_cons_self .., by rw [← e, ← e2, e3]⟩
      · exact .inr ⟨g2, h3, e2.trans e⟩
theorem layGo_begin {r : Rl} {B : Int} (hB : ∀ w : Wd, 0 ≤ w.per r ∧ w.per r ≤ w.ks.length * B) : ∀ (at_ : Int) {ks : List (Wd × Int)}, (∀ y ∈ ks, 1 ≤ y.2) → ∀ x ∈ layGo r at_ ks, at_ ≤ x.1 ∧ x.1 ≤ at_ + tot ks * B
  | _, [], _, x, hx => by cases hx
  | at_, (w, t) :: ks, h, x, hx => by
    have h1 := h (w, t) (List.mem_cons_self ..)
    have h2 := hB w
    have h3 : ∀ y ∈ ks, 1 ≤ y.2 := fun y hy => h y (List.mem_cons_of_mem _ hy)
    have h4 : 0 ≤ t * w.per r := Int.mul_nonneg (by have : 1 ≤ t := h1; omega) h2.1
    have h5 : t * w.per r ≤ t * (w.ks.length * B) := Int.mul_le_mul_of_nonneg_left h2.2 (by have : 1 ≤ t := h1; omega)
    have hB0 : 0 ≤ B := by
      have h6 := (hB (.one .s)).1
      have h7 := (hB (.one .s)).2
      have : ((Wd.one Kd.s).ks.length : Int) = 1 := rfl
      rw [this] at h7
      omega
    have h8 : 0 ≤ tot ks * B := Int.mul_nonneg (tot_nn h3) hB0
    have e : tot ((w, t) :: ks) * B = t * (w.ks.length * B) + tot ks * B := by
      show ((w.ks.length : Int) * t + tot ks) * B = _
      rw [Int.add_mul, Int.mul_comm (w.ks.length : Int) t, Int.mul_assoc]
    rw [e]
    rcases List.mem_cons.mp hx with rfl | hx
    · show at_ ≤ at_ ∧ at_ ≤ _
      omega
    · have := layGo_begin hB (at_ + t * w.per r) h3 x hx
      omega
theorem per_le {r : Rl} (ok : r.Ok) (w : Wd) : 0 ≤ w.per r ∧ w.per r ≤ w.ks.length * 2 ^ 301 := by
  have h := Wd.per_pos ok w
  refine ⟨by omega, ?_⟩
  cases w with
  | one k =>
    rw [per_one]
    have := Rl.per_lt ok k
    show _ ≤ (1 : Int) * _
    omega
  | two k =>
    rw [per_two]
    have := Rl.per_lt ok k
    have := Rl.per_lt ok k.ot
    show _ ≤ (2 : Int) * _
    omega
theorem tidyRuns_bound {r : Rl} {rs : List Run} (ok : r.Ok) (h : RunsOk rs) : ∀ x ∈ tidyRuns r rs, x.1.natAbs < 2 ^ 800 ∧ x.2.2.natAbs < 2 ^ 800 ∧ 1 ≤ x.2.2 := fun x hx => by
  rw [tidyRuns_eq] at hx
  unfold layAll at hx
  obtain ⟨g, hg, hx2⟩ := List.mem_flatMap.mp hx
  have hgr := groups_ok (r := r) h.t1
  have hg1 := hgr.1 g hg
  have hk := tidyKinds_ok hg1
  have hm := gsum_mem hgr.1 g hg
  rw [hgr.2.1] at hm
  have hb := layGo_begin (per_le ok) g.1 hk.2 x hx2
  rw [hk.1] at hb
  have htot := h.tot
  have ht0 := tot_nn hg1
  have h3 : tot g.2 * 2 ^ 301 ≤ 2 ^ 400 * 2 ^ 301 := Int.mul_le_mul_of_nonneg_right (by omega) (by decide)
  have e1 : (2 : Int) ^ 400 * 2 ^ 301 + 2 ^ 400 < 2 ^ 800 := by decide
  have hbeg : g.1.natAbs < 2 ^ 400 := by
    rcases groupsGo_begin g (List.mem_reverse.mp hg) with ⟨y, hy, e⟩ | ⟨g', hg', _⟩
    · rw [← e]; exact h.bg y hy
    · cases hg'
  have hx3 : 1 ≤ x.2.2 ∧ x.2.2 ≤ rtot rs := by
    have key : ∀ (at_ : Int) (ks : List (Wd × Int)), (∀ y ∈ ks, 1 ≤ y.2 ∧ y.2 ≤ rtot rs) → ∀ x ∈ layGo r at_ ks, 1 ≤ x.2.2 ∧ x.2.2 ≤ rtot rs := by
      intro at_ ks
      induction ks generalizing at_ with
      | nil => intro _ x hx; cases hx
      | cons y ks ih =>
        intro hy x hx
        obtain ⟨wd, t⟩ := y
        rcases List.mem_cons.mp hx with rfl | hx
        · exact hy _ (List.mem_cons_self ..)
        · exact ih _ (fun z hz => hy z (List.mem_cons_of_mem _ hz)) x hx
    exact key _ _ (fun y hy => grp_tot h.t1 hg hy) x hx2
  have e2 : (2 : Int) ^ 400 < 2 ^ 800 := by decide
  omega
end Sq
end
section
set_option Elab.async false
set_option linter.all false
set_option maxRecDepth 100000
set_option maxHeartbeats 4000000
set_option exponentiation.threshold 2000
/-! Texts of rules, records, runs and calls; the console in plain Lean. -/
namespace Sq
open PySem PySem.Spec PyProof.Rows L2
/-- an f-string -/
def tJS (ts : List TE) : TE := fun σ H Q => tJs ts Str.empty σ H fun out H1 => Q (.str out) H1
theorem pe_joinedN {X : Cx} {v1 v2 : Expr} {rest : List Expr} {ts : List TE} {pos : Pos} (h : PJ X (v1 :: v2 :: rest) ts) : PE X (.JoinedStr (v1 :: v2 :: rest) pos) (tJS ts) := pe_joined h
section
variable {H : Hp} {Q : VK} {K : PySem.W.Frag}
theorem r_jS {ts : List TE} {σ : L2.St} (h : tJs ts Str.empty σ H fun out H1 => Q (.str out) H1) : tJS ts σ H Q := h
theorem r_splitE {z y : Str} (h1 : (y.length == 0) = false) (h2 : z.length + 2 ≤ sizeLine) (q : ∀ p, H p = none → Q (.ref p) (upd H p (.lst ((Txt.split z y).map V.str)))) : ∃ a b, V.str z = .str a ∧ [V.str y] = [V.str b] ∧ (b.length == 0) = false ∧ a.length + 2 ≤ sizeLine ∧ rNewStrs (Txt.split a b) H Q := ⟨z, y, rfl, rfl, h1, h2, q⟩
theorem r_partE {z y : Str} (h1 : (y.length == 0) = false) (h2 : z.length ≤ sizeLine) (q : ∀ p, H p = none → Q (.ref p) (upd H p (.tup [.str (Txt.partition z y).1, .str (Txt.partition z y).2.1, .str (Txt.partition z y).2.2]))) : ∃ a b, V.str z = .str a ∧ [V.str y] = [V.str b] ∧ (b.length == 0) = false ∧ a.length ≤ sizeLine ∧
      ∀ p, H p = none → Q (.ref p) (upd H p (.tup [.str (Txt.partition a b).1, .str (Txt.partition a b).2.1, .str (Txt.partition a b).2.2])) := ⟨z, y, rfl, rfl, h1, h2, q⟩
theorem r_joinE {z : Str} {l : Addr} {ys : List Str} (h : SqL K H l (ys.map V.str)) (hl : (ys.map (·.length)).sum + ys.length * z.length ≤ 16777216) (q : Q (.str (Txt.join z ys)) H) : rJoinQ K (.str z) [.ref l] H Q := ⟨z, l, ys, rfl, rfl, .inl h, hl, q⟩
theorem pe_splitN {X : Cx} {o e : Expr} {to te : TE} {apos pos : Pos} (ho : PE X o to) (he : PE X e te) (hs : starEach [e] X.env = [(false, eval e X.env)] := by rfl) (hbase : attributeBase o "split" X.env (eval o X.env) = eval o X.env := by rfl) (hline : (apos.endLine == pos.line) = true := by rfl) :
    PE X (.Call (.Attribute o "split" apos) [e] [] pos) (tM1 rSplitQ to te) := pe_split ho he hs hbase hline
theorem pe_partN {X : Cx} {o e : Expr} {to te : TE} {apos pos : Pos} (ho : PE X o to) (he : PE X e te) (hs : starEach [e] X.env = [(false, eval e X.env)] := by rfl) (hbase : attributeBase o "partition" X.env (eval o X.env) = eval o X.env := by rfl) (hline : (apos.endLine == pos.line) = true := by rfl) :
    PE X (.Call (.Attribute o "partition" apos) [e] [] pos) (tM1 rPartQ to te) := pe_partition ho he hs hbase hline
theorem pe_joinN {X : Cx} {o e : Expr} {to te : TE} {apos pos : Pos} (ho : PE X o to) (he : PE X e te) (hs : starEach [e] X.env = [(false, eval e X.env)] := by rfl) (hbase : attributeBase o "join" X.env (eval o X.env) = eval o X.env := by rfl) (hline : (apos.endLine == pos.line) = true := by rfl) :
    PE X (.Call (.Attribute o "join" apos) [e] [] pos) (tM1 (rJoinQ X.K) to te) := pe_join ho he hs hbase hline
theorem pe_joinNK {X : Cx} {o e : Expr} {to te : TE} {apos pos : Pos} (h : X.K = K) (ho : PE X o to) (he : PE X e te) (hs : starEach [e] X.env = [(false, eval e X.env)] := by rfl) (hbase : attributeBase o "join" X.env (eval o X.env) = eval o X.env := by rfl) (hline : (apos.endLine == pos.line) = true := by rfl) :
    PE X (.Call (.Attribute o "join" apos) [e] [] pos) (tM1 (rJoinQ K) to te) := by subst h; exact pe_joinN ho he hs hbase hline
end
/-! ### texts -/
theorem app_assoc (a b c : Str) : a ++ b ++ c = a ++ (b ++ c) := TL.ext_tl (by rw [TL.tl_append, TL.tl_append, TL.tl_append, TL.tl_append, List.append_assoc])
theorem emp_app (a : Str) : Str.empty ++ a = a := TL.ext_tl (by rw [TL.tl_append]; rfl)
theorem app_len (a b : Str) : (a ++ b).length = a.length + b.length := Str.length_append a b
theorem tl_sp : TL.tl (" " : Str) = [32] := by decide +kernel
theorem join1 (y a : Str) : Txt.join y [a] = a := by rw [TL.join_eq]; rfl
theorem join0 (y : Str) : Txt.join y [] = Str.empty := by rw [TL.join_eq]; rfl
theorem join_cons (y a b : Str) (r : List Str) : Txt.join y (a :: b :: r) = a ++ y ++ Txt.join y (b :: r) := by rw [TL.join_eq, TL.join_eq]; rfl
theorem free_nS (i : Int) : 32 ∉ TL.tl (nS i) := by rw [nS_tl]; exact numC_free (by omega)
theorem split_sp {ws : List Str} (hn : ws ≠ []) (h : ∀ p ∈ ws, 32 ∉ TL.tl p) : Txt.split (Txt.join " " ws) " " = ws := TL.split_join tl_sp (by decide +kernel) hn h
theorem part_sp {a b : Str} (h : 32 ∉ TL.tl a) : Txt.partition (a ++ " " ++ b) " " = (a, (" " : Str), b) := TL.partition_app tl_sp h
theorem part_no {a : Str} (h : 32 ∉ TL.tl a) : Txt.partition a " " = (a, Str.empty, Str.empty) := TL.partition_none tl_sp h
theorem free_kd (k : Kd) : 32 ∉ TL.tl k.str := by cases k <;> decide +kernel
def ynS (b : Bool) : Str := if b then "yes" else "no"
def rulesWs (r : Rl) : List Str := [nS r.s, nS r.l, nS r.p, nS r.d, r.rem.str, ynS r.ag, r.both.str]
def rulesT (r : Rl) : Str := Txt.join " " (rulesWs r)
theorem free_rules (r : Rl) : ∀ p ∈ rulesWs r, 32 ∉ TL.tl p := by
  intro p hp
  simp only [rulesWs, List.mem_cons, List.not_mem_nil, or_false] at hp
  rcases hp with rfl | rfl | rfl | rfl | rfl | rfl | rfl
  · exact free_nS _
  · exact free_nS _
  · exact free_nS _
  · exact free_nS _
  · cases r.rem <;> decide +kernel
  · cases r.ag <;> decide +kernel
  · cases r.both <;> decide +kernel
theorem split_rules (r : Rl) : Txt.split (rulesT r) " " = rulesWs r := split_sp (by simp [rulesWs]) (free_rules r)
/-- rules that can stand in a text -/
structure RlT (r : Rl) : Prop where
  ok : r.Ok
  b1 : r.s.natAbs < 10 ^ 30
  b2 : r.l.natAbs < 10 ^ 30
  b3 : r.p.natAbs < 10 ^ 30
  b4 : r.d.natAbs < 10 ^ 30
def evS (e : Ev) : Str := nS e.1 ++ e.2.1.str ++ (if e.2.2 then "+" else "-")
def recT (es : List Ev) : Str := Txt.join " " (es.map evS)
theorem free_ev (e : Ev) : 32 ∉ TL.tl (evS e) := by
  unfold evS
  rw [TL.tl_append, TL.tl_append]
  intro h
  rcases List.mem_append.mp h with h | h
  · rcases List.mem_append.mp h with h | h
    · exact free_nS _ h
    · exact free_kd _ h
  · revert h
    cases e.2.2 <;> decide +kernel
def callWs : Call → List Str
  | .press k t => ["press", k.str, nS t]
  | .release k t => ["release", k.str, nS t]
  | .wait t => ["wait", nS t]
def callT (c : Call) : Str := Txt.join " " (callWs c)
theorem free_call (c : Call) : ∀ p ∈ callWs c, 32 ∉ TL.tl p := by
  intro p hp
  cases c with
  | press k t =>
    simp only [callWs, List.mem_cons, List.not_mem_nil, or_false] at hp
    rcases hp with rfl | rfl | rfl
    · decide +kernel
    · exact free_kd _
    · exact free_nS _
  | release k t =>
    simp only [callWs, List.mem_cons, List.not_mem_nil, or_false] at hp
    rcases hp with rfl | rfl | rfl
    · decide +kernel
    · exact free_kd _
    · exact free_nS _
  | wait t =>
    simp only [callWs, List.mem_cons, List.not_mem_nil, or_false] at hp
    rcases hp with rfl | rfl
    · decide +kernel
    · exact free_nS _
theorem split_call (c : Call) : Txt.split (callT c) " " = callWs c := split_sp (by cases c <;> simp [callWs]) (free_call c)
def Call.tick : Call → Int
  | .press _ t => t
  | .release _ t => t
  | .wait t => t
/-- the first word of a call -/
def Call.word : Call → Str
  | .press _ _ => "press"
  | .release _ _ => "release"
  | .wait _ => "wait"
theorem part_call (c : Call) : ∃ z, Txt.partition (callT c) " " = (c.word, (" " : Str), z) := by
  cases c with
  | press k t =>
    refine ⟨Txt.join " " [k.str, nS t], ?_⟩
    show Txt.partition (Txt.join " " ["press", k.str, nS t]) " " = _
    rw [join_cons]
    exact part_sp (by decide +kernel)
  | release k t =>
    refine ⟨Txt.join " " [k.str, nS t], ?_⟩
    show Txt.partition (Txt.join " " ["release", k.str, nS t]) " " = _
    rw [join_cons]
    exact part_sp (by decide +kernel)
  | wait t =>
    refine ⟨Txt.join " " [nS t], ?_⟩
    show Txt.partition (Txt.join " " ["wait", nS t]) " " = _
    rw [join_cons]
    exact part_sp (by decide +kernel)
def runS (x : Run) : Str := nS x.1 ++ ":" ++ x.2.1.str ++ "*" ++ nS x.2.2
def runsT (rs : List Run) : Str := Txt.join " " (rs.map runS)
def kiS (x : Wd × Int) : Str := x.1.str ++ "*" ++ nS x.2
def kindsT (ks : List (Wd × Int)) : Str := Txt.join " " (ks.map kiS)
def orN (t : Str) : Str := if t = "" then "none" else t
theorem wd_str_len (x : Wd) : x.str.length ≤ 2 := by
  cases x with
  | one k => cases k <;> decide +kernel
  | two k => cases k <;> decide +kernel
theorem runS_len {x : Run} (h1 : x.1.natAbs < 2 ^ 800) (h2 : x.2.2.natAbs < 2 ^ 800) : (runS x).length ≤ 488 := by
  unfold runS
  rw [app_len, app_len, app_len, app_len]
  have := nS_len2 h1
  have := nS_len2 h2
  have := wd_str_len x.2.1
  have e1 : (":" : Str).length = 1 := by decide +kernel
  have e2 : ("*" : Str).length = 1 := by decide +kernel
  omega
theorem kiS_len {x : Wd × Int} (h2 : x.2.natAbs < 2 ^ 800) : (kiS x).length ≤ 245 := by
  unfold kiS
  rw [app_len, app_len]
  have := nS_len2 h2
  have := wd_str_len x.1
  have e2 : ("*" : Str).length = 1 := by decide +kernel
  omega
theorem callT_len {c : Call} (h : c.tick.natAbs < 2 ^ 800) : (callT c).length ≤ 260 := by
  have h2 : (nS c.tick).length ≤ 242 := nS_len2 h
  have e0 : (" " : Str).length = 1 := by decide +kernel
  cases c with
  | press k t =>
    show (Txt.join " " ["press", k.str, nS t]).length ≤ _
    rw [join_cons, join_cons, join1, app_len, app_len, app_len, app_len]
    have e1 : ("press" : Str).length = 5 := by decide +kernel
    have e2 : k.str.length = 1 := by cases k <;> decide +kernel
    have h3 : (nS t).length ≤ 242 := h2
    omega
  | release k t =>
    show (Txt.join " " ["release", k.str, nS t]).length ≤ _
    rw [join_cons, join_cons, join1, app_len, app_len, app_len, app_len]
    have e1 : ("release" : Str).length = 7 := by decide +kernel
    have e2 : k.str.length = 1 := by cases k <;> decide +kernel
    have h3 : (nS t).length ≤ 242 := h2
    omega
  | wait t =>
    show (Txt.join " " ["wait", nS t]).length ≤ _
    rw [join_cons, join1, app_len, app_len]
    have e1 : ("wait" : Str).length = 4 := by decide +kernel
    have h3 : (nS t).length ≤ 242 := h2
    omega
theorem sum_len {α : Type} {f : α → Str} {n : Nat} : ∀ {l : List α}, (∀ x ∈ l, (f x).length ≤ n) → ((l.map f).map (·.length)).sum ≤ n * l.length
  | [], _ => Nat.le_refl _
  | x :: l, h => by
    have h1 := h x (List.mem_cons_self ..)
    have h2 := sum_len (l := l) fun y hy => h y (List.mem_cons_of_mem _ hy)
    rw [List.map_cons, List.map_cons, List.sum_cons, List.length_cons, Nat.mul_succ]
    omega
/-! ### the console -/
inductive Ask where
  | runs | would | down | rem | idle | next | log
  deriving DecidableEq
def Ask.str : Ask → Str
  | .runs => "runs"
  | .would => "would"
  | .down => "down"
  | .rem => "remembered"
  | .idle => "idle"
  | .next => "next"
  | .log => "log"
def numT : Option Int → Str
  | none => "none"
  | some t => nS t
def Ky.ans (ky : Ky) : Ask → Str
  | .runs => orN (runsT ky.cur.st.tidy)
  | .would => orN (runsT ky.cur.would)
  | .down => orN (Txt.join " " (ky.cur.st.down.map Kd.str))
  | .rem => orN (Txt.join " " (ky.cur.remembered.map Kd.str))
  | .idle => if ky.cur.st.kind = none then "yes" else "no"
  | .next => numT ky.cur.next
  | .log => orN (Txt.join "; " (ky.calls.map callT))
structure Con where
  ky : Option Ky
  rc : Option (List Ev)
def Con.new : Con := ⟨none, none⟩
theorem relAll_rules {t : Int} : ∀ {ks : List Kd} {s : MSt}, (relAll t ks s).rules = s.rules
  | [], s => rfl
  | k :: ks, s => by
    show (relAll t ks (s.happen t k false)).rules = _
    rw [relAll_rules, (hap_f s t k false).rl]
theorem would_len {c : Nat} {m : Mom} (h : MGood c m) (hc : c ≤ 3000) : m.wouldSt.runs.length ≤ 20 * c + 56 ∧ m.wouldSt.rules = m.st.rules := by
  have ht : Tk (m.tick.getD 0) := by
    cases e : m.tick with
    | none => exact ⟨by decide, by decide⟩
    | some t => exact h.t t e
  have g := relAll_good ht (ks := m.st.down) h.g
  have hl := down_len h.g.dn
  obtain ⟨_, _, f⟩ := good_fin g (by omega) relAll_nil
  obtain ⟨e, r1, r2, _⟩ := f.r
  refine ⟨?_, f.kp.rl.trans relAll_rules⟩
  show (relAll (m.tick.getD 0) m.st.down m.st).fin.runs.length ≤ _
  rw [r1, List.length_append]
  have := g.rl
  omega
theorem ask_free (a : Ask) : 32 ∉ TL.tl a.str := by cases a <;> decide +kernel
end Sq
end
section
set_option Elab.async false
set_option linter.all false
set_option maxRecDepth 100000
set_option maxHeartbeats 4000000
set_option exponentiation.threshold 2000
/-! The law's own functions: draws. -/
namespace Sq
open PySem PySem.Spec PyProof.Rows L2
/-- a power of a wide base -/
def CPowW (i j : Int) : Prop := 0 ≤ j ∧ (Builtin.Int.intBits i : Int) * j ≤ 2 ^ 27
section
variable {X : Cx}
theorem op_powW : OpR X (binaryOp .Pow) (rI CPowW fun i j => .int (i ^ j.toNat)) := opI fun _ _ _ _ _ _ _ hc q => pow_int hc.1 hc.2 q
end
theorem cube_ok {i : Int} {a : Nat} (h : i.natAbs < 2 ^ a) (h0 : 0 < a) (h1 : a ≤ 100000) : CPowW i 3 := by
  refine ⟨by decide, ?_⟩
  have x := PySem.Flt.log2_lt_of h0 h
  have b : Builtin.Int.intBits i ≤ i.natAbs.log2 + 1 := by
    unfold Builtin.Int.intBits
    split <;> omega
  omega
/-- all but one cell stay -/
def Oth (f : Addr) (H H' : Hp) : Prop := ∀ a o, a ≠ f → H a = some o → H' a = some o
theorem Oth.refl {f : Addr} {H : Hp} : Oth f H H := fun _ _ _ h => h
theorem Oth.trans {f : Addr} {A B C : Hp} (h : Oth f A B) (g : Oth f B C) : Oth f A C := fun a o n e => g a o n (h a o n e)
theorem Oth.put {f : Addr} {H : Hp} {o : HO} : Oth f H (upd H f o) := fun a u n e => by rw [upd_ne n]; exact e
theorem Oth.of {f : Addr} {A B : Hp} (s : Same A B) : Oth f A B := fun a o _ h => s a o h
theorem Oth.part {f : Addr} {Y H H' : Hp} (h : Oth f H H') (s : Same Y H) (y : Y f = none) : Same Y H' := fun a o e => h a o (fun z => by rw [z, y] at e; cases e) (s a o e)
/-- a draw -/
def FtAt (H : Hp) (f : Addr) (n : Nat) : Prop := ∃ a b c : Int, H f = some (.lst [.int a, .int b, .int c]) ∧ 0 ≤ a ∧ 0 ≤ b ∧ b < 2 ^ 140 ∧ 0 ≤ c ∧ c ≤ n
theorem FtAt.ex {H H' : Hp} {f : Addr} {n : Nat} (h : FtAt H f n) (s : Same H H') : FtAt H' f n := by
  obtain ⟨a, b, c, e, r⟩ := h
  exact ⟨a, b, c, s _ _ e, r⟩
theorem FtAt.mono {H : Hp} {f : Addr} {n m : Nat} (h : FtAt H f n) (s : n ≤ m) : FtAt H f m := by
  obtain ⟨a, b, c, e, r1, r2, r3, r4, r5⟩ := h
  exact ⟨a, b, c, e, r1, r2, r3, r4, by omega⟩
theorem FtAt.lst {H : Hp} {f : Addr} {n : Nat} (h : FtAt H f n) : ∃ xs, H f = some (.lst xs) := by
  obtain ⟨a, b, c, e, r⟩ := h
  exact ⟨_, e⟩
theorem FtAt.ne {H : Hp} {f p : Addr} {n : Nat} (h : FtAt H f n) (e : H p = none) : p ≠ f := fun z => by
  obtain ⟨xs, h⟩ := h.lst
  rw [← z, e] at h
  cases h
theorem FtAt.ne_t {H : Hp} {f p : Addr} {n : Nat} {xs : List V} (h : FtAt H f n) (e : H p = some (.tup xs)) : p ≠ f := fun z => by
  obtain ⟨xs, h⟩ := h.lst
  rw [← z, e] at h
  cases h
theorem at_in {xs : List V} {d : Int} (h0 : 0 ≤ d) (h1 : d < xs.length) : ∃ x, atI xs d = some x ∧ x ∈ xs := by
  obtain ⟨n, rfl⟩ := Int.eq_ofNat_of_zero_le h0
  have hn : n < xs.length := by omega
  exact ⟨xs[n], at_lit (List.getElem?_eq_getElem hn), List.getElem_mem hn⟩
section
variable {H : Hp} {σ : L2.St} {K : PySem.W.Frag}
theorem r_gsub {to ti : TE} {t : TSet} {v : V} {Q : L2.St → Hp → Prop} (h : to σ H fun o H1 => ti σ H1 fun i H2 => t o i v H2 fun H3 => Q σ H3) : gSub to ti t v σ H Q := h
theorem r_setL {p : Addr} {xs : List V} {k : Int} {j : Nat} {v : V} {Q : Hp → Prop} (hp : H p = some (.lst xs)) (hj : ixN xs.length k = some j) (q : Q (upd H p (.lst (xs.set j v)))) : rSetL (.ref p) (.int k) v H Q := ⟨p, xs, k, j, rfl, rfl, hp, hj, q⟩
theorem r_popAtI {l : Addr} {xs : List V} {n : Nat} {y : V} {Q : VK} (hp : H l = some (.lst xs)) (hy : xs[n]? = some y) (hs : xs.length < 1000) (q : Q y (upd H l (.lst (xs.eraseIdx n)))) : rPopAt (.ref l) [.int n] H Q := by
  have hn : n < xs.length := (List.getElem?_eq_some_iff.mp hy).1
  exact ⟨l, xs, n, n, y, rfl, rfl, hp, by omega, by omega, (seqIndex_of (by omega) (by omega) : _), hy, q⟩
theorem r_ixSE {z : Str} {i : Int} {c : Nat} {Q : VK} (hz : z.length ≤ sizeLine) (h : atI z.cps.toList i = some c) (q : Q (.str ⟨#[c]⟩) H) : rIxS (.str z) (.int i) H Q := ⟨z, i, c, rfl, rfl, hz, h, q⟩
end
/-! ### the draw's numbers -/
theorem dip_cube {i : Int} (h0 : 0 ≤ i) (h : i < 2 ^ 200) : CPowW i 3 := cube_ok (a := 200) (by omega) (by decide) (by decide)
theorem dip_div {i : Int} : CDivW i (10 ^ 9) := wide_div (b := 30) (by decide) (by decide) (by decide) (by decide)
end Sq
end
section
set_option Elab.async false
set_option linter.all false
set_option maxRecDepth 100000
set_option maxHeartbeats 4000000
/-! The tidy form depends on the marks alone: runs of one mark each. -/
namespace Sq
open PySem PyProof.Rows
theorem Kd.ot_ot (k : Kd) : k.ot.ot = k := by cases k <;> rfl
theorem Kd.ot_ne (k : Kd) : k.ot ≠ k := by cases k <;> simp [Kd.ot]
theorem Kd.ne_ot {k j : Kd} (h : j ≠ k) : j = k.ot := by cases k <;> cases j <;> first | rfl | exact absurd rfl h
/-- one mark more -/
def put1 (ps : List Part) (k : Kd) : List Part := putSame k 1 ps
def ones (ps : List Part) : List Kd → List Part := List.foldl put1 ps
theorem ones_app (ps : List Part) (a b : List Kd) : ones ps (a ++ b) = ones (ones ps a) b := List.foldl_append
/-- behind a mark of a kind, the last kind is that one -/
theorem put1_ne {k : Kd} {ps : List Part} (h : lastKind ps ≠ some k) : put1 ps k = putAlt k 1 ps := by
  unfold put1 putSame
  rw [if_pos h, if_pos rfl]
theorem last_putAlt1 {k : Kd} {ps : List Part} (h : lastKind ps ≠ some k) : lastKind (putAlt k 1 ps) = some k := by
  cases ps with
  | nil => rfl
  | cons p r =>
    obtain ⟨f, b, alt⟩ := p
    cases alt with
    | false => rfl
    | true =>
      show lastKind (if (0 : Int) < 1 then (f, b + 1, true) :: r else (f, b, true) :: r) = _
      rw [if_pos (by decide)]
      have h2 : (if true && decide (b % 2 = 0) then f.ot else f) ≠ k := fun e => h (congrArg some e)
      show some (if true && decide ((b + 1) % 2 = 0) then f.ot else f) = some k
      rw [Bool.true_and] at h2 ⊢
      by_cases hb : b % 2 = 0
      · rw [if_pos (decide_eq_true hb)] at h2
        rw [if_neg (by rw [decide_eq_true_eq]; omega)]
        have := Kd.ne_ot h2
        rw [show f = k by have := congrArg Kd.ot this; rwa [Kd.ot_ot, Kd.ot_ot] at this]
      · rw [if_neg (by rw [decide_eq_true_eq]; exact hb)] at h2
        rw [if_pos (by rw [decide_eq_true_eq]; omega), Kd.ne_ot h2, Kd.ot_ot]
/-- a kind once more behind itself -/
theorem put1_eq {k f : Kd} {b : Int} {alt : Bool} {r : List Part} (h : lastKind ((f, b, alt) :: r) = some k) : put1 ((f, b, alt) :: r) k = (k, 1 + (if alt then 1 else b), false) :: (if alt = true ∧ 1 < b then (f, b - 1, true) :: r else r) := by
  unfold put1 putSame
  rw [if_neg (by rw [h]; exact fun z => z rfl)]
/-- the same kind many times, from a block of it on -/
theorem ones_same (k : Kd) : ∀ (n : Nat) (b : Int) (r : List Part), ones ((k, b, false) :: r) (List.replicate n k) = (k, b + n, false) :: r
  | 0, b, r => by
    show ((k, b, false) :: r : List Part) = _
    rw [show b + ((0 : Nat) : Int) = b by omega]
  | n + 1, b, r => by
    rw [List.replicate_succ]
    show ones (put1 ((k, b, false) :: r) k) (List.replicate n k) = _
    rw [put1_eq (show lastKind ((k, b, false) :: r) = some k from rfl)]
    show ones ((k, 1 + b, false) :: r) (List.replicate n k) = _
    rw [ones_same k n (1 + b) r]
    congr 2
    congr 1
    omega
theorem put1_twice {k : Kd} {ps : List Part} (hp : PI ps) (h : lastKind ps ≠ some k) : put1 (put1 ps k) k = (k, 2, false) :: ps := by
  rw [put1_ne h]
  have hl := last_putAlt1 h
  cases ps with
  | nil =>
    show put1 ((k, 1, true) :: []) k = _
    rw [put1_eq (k := k) hl]
    rfl
  | cons p r =>
    obtain ⟨f, b, alt⟩ := p
    cases alt with
    | false =>
      show put1 ((k, 1, true) :: (f, b, false) :: r) k = _
      rw [put1_eq (k := k) hl]
      rfl
    | true =>
      have e : putAlt k 1 ((f, b, true) :: r) = (f, b + 1, true) :: r := by
        show (if (0 : Int) < 1 then (f, b + 1, true) :: r else (f, b, true) :: r) = _
        rw [if_pos (by decide)]
      rw [e] at hl ⊢
      have hb : 1 ≤ b := hp.1
      rw [put1_eq hl, show b + 1 - 1 = b by omega]
      show (k, (1 : Int) + 1, false) :: (if true = true ∧ 1 < b + 1 then (f, b, true) :: r else r) = _
      rw [if_pos ⟨rfl, by omega⟩]
      rfl
theorem putSame_ones {k : Kd} {n : Nat} {ps : List Part} (hp : PI ps) (hn : 1 ≤ n) : putSame k n ps = ones ps (List.replicate n k) := by
  by_cases h : lastKind ps = some k
  · cases ps with
    | nil => cases h
    | cons p r =>
      obtain ⟨f, b, alt⟩ := p
      obtain ⟨m, rfl⟩ : ∃ m, n = m + 1 := ⟨n - 1, by omega⟩
      rw [List.replicate_succ]
      show _ = ones (put1 ((f, b, alt) :: r) k) (List.replicate m k)
      rw [put1_eq h, ones_same]
      unfold putSame
      rw [if_neg (by rw [h]; exact fun z => z rfl)]
      show ((k, ((m + 1 : Nat) : Int) + (if alt then 1 else b), false) :: _ : List Part) = _
      congr 2
      congr 1
      omega
  · by_cases h1 : n = 1
    · subst h1
      rfl
    · obtain ⟨m, rfl⟩ : ∃ m, n = m + 2 := ⟨n - 2, by omega⟩
      rw [List.replicate_succ, List.replicate_succ]
      show _ = ones (put1 (put1 ps k) k) (List.replicate m k)
      rw [put1_twice hp h, ones_same]
      unfold putSame
      rw [if_pos h, if_neg (by omega)]
      congr 2
      congr 1
      omega
/-- marks that alternate -/
def zigs : Kd → Nat → List Kd
  | _, 0 => []
  | k, n + 1 => k :: zigs k.ot n
theorem putAlt_add {k j : Kd} {a b : Int} {ps : List Part} (ha : 0 < a) (hb : 0 ≤ b) : putAlt j b (putAlt k a ps) = putAlt k (a + b) ps := by
  have key : ∀ (f : Kd) (m : Int) (r : List Part), putAlt j b ((f, m, true) :: r) = (f, m + b, true) :: r := fun f m r => by
    show (if 0 < b then (f, m + b, true) :: r else (f, m, true) :: r) = _
    split
    · rfl
    · rw [show b = 0 by omega, Int.add_zero]
  cases ps with
  | nil =>
    show putAlt j b (if 0 < a then (k, a, true) :: [] else []) = (if 0 < a + b then (k, a + b, true) :: [] else [])
    rw [if_pos ha, if_pos (by omega), key]
  | cons p r =>
    obtain ⟨f, m, alt⟩ := p
    cases alt with
    | true =>
      show putAlt j b (if 0 < a then (f, m + a, true) :: r else (f, m, true) :: r) = (if 0 < a + b then (f, m + (a + b), true) :: r else (f, m, true) :: r)
      rw [if_pos ha, if_pos (by omega), key, Int.add_assoc]
    | false =>
      show putAlt j b (if 0 < a then (k, a, true) :: (f, m, false) :: r else (f, m, false) :: r) = (if 0 < a + b then (k, a + b, true) :: (f, m, false) :: r else (f, m, false) :: r)
      rw [if_pos ha, if_pos (by omega), key]
theorem putAlt_zigs : ∀ (n : Nat) {k : Kd} {ps : List Part}, lastKind ps ≠ some k → 1 ≤ n → putAlt k n ps = ones ps (zigs k n)
  | 0, _, _, _, h => absurd h (by omega)
  | 1, k, ps, h, _ => by
    show putAlt k 1 ps = put1 ps k
    rw [put1_ne h]
  | n + 2, k, ps, h, _ => by
    show _ = ones (put1 ps k) (zigs k.ot (n + 1))
    rw [put1_ne h, ← putAlt_zigs (n + 1) (by rw [last_putAlt1 h]; intro e; exact Kd.ot_ne k (Option.some.inj e).symm) (by omega), putAlt_add (by decide) (by omega)]
    congr 1
    omega
theorem last_put1 {k : Kd} {ps : List Part} : lastKind (put1 ps k) = some k := by
  by_cases h : lastKind ps = some k
  · cases ps with
    | nil => cases h
    | cons p r =>
      obtain ⟨f, b, alt⟩ := p
      rw [put1_eq h]
      rfl
  · rw [put1_ne h]
    exact last_putAlt1 h
/-- the kinds of a word many times -/
def wks : Wd → Nat → List Kd
  | .one k, n => List.replicate n k
  | .two k, n => zigs k (2 * n)
theorem putIn_ones {w : Wd} {n : Nat} {ps : List Part} (hp : PI ps) (hn : 1 ≤ n) : putIn w n ps = ones ps (wks w n) := by
  cases w with
  | one k => exact putSame_ones hp hn
  | two k =>
    obtain ⟨m, rfl⟩ : ∃ m, n = m + 1 := ⟨n - 1, by omega⟩
    show putAlt k.ot (2 * ((m + 1 : Nat) : Int) - 1) (put1 ps k) = ones ps (zigs k (2 * (m + 1)))
    rw [show (2 * ((m + 1 : Nat) : Int) - 1) = ((2 * m + 1 : Nat) : Int) by omega, putAlt_zigs (2 * m + 1) (by rw [last_put1]; intro e; exact Kd.ot_ne k (Option.some.inj e).symm) (by omega)]
    rfl
/-- all marks' kinds -/
def kdsOf (ks : List (Wd × Int)) : List Kd := ks.flatMap fun x => wks x.1 x.2.toNat
theorem putAll_ones : ∀ {ks : List (Wd × Int)} {ps : List Part}, PI ps → (∀ x ∈ ks, 1 ≤ x.2) → putAll ks ps = ones ps (kdsOf ks)
  | [], ps, _, _ => rfl
  | (w, t) :: ks, ps, hp, h => by
    have ht : 1 ≤ t := h (w, t) (List.mem_cons_self ..)
    obtain ⟨n, rfl⟩ := Int.eq_ofNat_of_zero_le (show 0 ≤ t by omega)
    show putAll ks (putIn w n ps) = ones ps (wks w n ++ kdsOf ks)
    rw [ones_app, ← putIn_ones hp (by omega)]
    exact putAll_ones (putIn_ok hp ht).1 fun x hx => h x (List.mem_cons_of_mem _ hx)
/-! ### groups -/
/-- marks from a tick on -/
def lay1 (r : Rl) : Int → List Kd → List Run
  | _, [] => []
  | a, k :: ks => (a, .one k, 1) :: lay1 r (a + r.per k) ks
def persum (r : Rl) (ks : List Kd) : Int := (ks.map r.per).sum
def expand (r : Rl) (x : Run) : List Run := lay1 r x.1 (wks x.2.1 x.2.2.toNat)
/-- all marks, each one a run of its own -/
def sing (r : Rl) (xs : List Run) : List Run := xs.flatMap (expand r)
theorem sing_app (r : Rl) (a b : List Run) : sing r (a ++ b) = sing r a ++ sing r b := List.flatMap_append
theorem zigs_two (k : Kd) (n : Nat) : zigs k (2 * (n + 1)) = k :: k.ot :: zigs k (2 * n) := by
  show zigs k (2 * n + 1 + 1) = _
  show k :: k.ot :: zigs k.ot.ot (2 * n) = _
  rw [Kd.ot_ot]
theorem persum_cons (r : Rl) (k : Kd) (ks : List Kd) : persum r (k :: ks) = r.per k + persum r ks := rfl
theorem persum_wks (r : Rl) : ∀ (w : Wd) (n : Nat), persum r (wks w n) = n * w.per r
  | .one k, 0 => by show (0 : Int) = ((0 : Nat) : Int) * _; simp
  | .one k, n + 1 => by
    show r.per k + persum r (wks (.one k) n) = _
    rw [persum_wks r (.one k) n]
    show r.per k + (n : Int) * Wd.per r (.one k) = ((n + 1 : Nat) : Int) * Wd.per r (.one k)
    have e : Wd.per r (.one k) = r.per k := by show r.per k + 0 = _; omega
    rw [e, Int.natCast_add, Int.add_mul]
    omega
  | .two k, 0 => by show (0 : Int) = ((0 : Nat) : Int) * _; simp
  | .two k, n + 1 => by
    show persum r (zigs k (2 * (n + 1))) = _
    rw [zigs_two, persum_cons, persum_cons]
    show r.per k + (r.per k.ot + persum r (wks (.two k) n)) = _
    rw [persum_wks r (.two k) n]
    have e : Wd.per r (.two k) = r.per k + r.per k.ot := by show r.per k + (r.per k.ot + 0) = _; omega
    rw [e, Int.natCast_add, Int.add_mul]
    omega
theorem runEnd1 (r : Rl) (a : Int) (k : Kd) : runEnd r (a, .one k, 1) = a + r.per k := by
  show a + 1 * (r.per k + 0) = _
  omega
def oneK (k : Kd) : Wd × Int := (.one k, 1)
theorem go_lay1 (r : Rl) {xs : List Run} : ∀ {ks : List Kd} {a : Int} {b : Int} {l : List (Wd × Int)} {g : List Grp}, groupsGo r (lay1 r a ks ++ xs) (some a) ((b, l) :: g) = groupsGo r xs (some (a + persum r ks)) ((b, l ++ ks.map oneK) :: g)
  | [], a, b, l, g => by
    show groupsGo r xs (some a) ((b, l) :: g) = groupsGo r xs (some (a + 0)) ((b, l ++ []) :: g)
    rw [Int.add_zero, List.append_nil]
  | k :: ks, a, b, l, g => by
    show groupsGo r ((a, .one k, 1) :: (lay1 r (a + r.per k) ks ++ xs)) (some a) ((b, l) :: g) = _
    rw [groupsGo_cons, runEnd1]
    have e : grpStep (a, .one k, 1) (some a) ((b, l) :: g) = (b, l ++ [oneK k]) :: g := by
      unfold grpStep openG
      show addG _ (if a < a then _ else _) = _
      rw [if_neg (Int.lt_irrefl a)]
      rfl
    rw [e, go_lay1 r (ks := ks), persum_cons, List.map_cons, List.append_assoc, Int.add_assoc]
    rfl
/-- a group's begin and its marks' kinds -/
def phi (gs : List Grp) : List (Int × List Kd) := gs.map fun g => (g.1, kdsOf g.2)
theorem kdsOf_app (a b : List (Wd × Int)) : kdsOf (a ++ b) = kdsOf a ++ kdsOf b := List.flatMap_append
theorem kdsOf_ones : ∀ ks : List Kd, kdsOf (ks.map oneK) = ks
  | [] => rfl
  | k :: ks => by
    show [k] ++ kdsOf (ks.map oneK) = _
    rw [kdsOf_ones ks]
    rfl
theorem phi_open {b : Int} {last : Option Int} {gs gs' : List Grp} (h : phi gs = phi gs') : phi (openG b last gs) = phi (openG b last gs') := by
  unfold openG
  cases last with
  | none => show (b, kdsOf []) :: phi gs = (b, kdsOf []) :: phi gs'; rw [h]
  | some e =>
    show phi (if e < b then _ else _) = phi (if e < b then _ else _)
    split
    · show (b, kdsOf []) :: phi gs = (b, kdsOf []) :: phi gs'; rw [h]
    · exact h
theorem phi_go (r : Rl) : ∀ {xs : List Run} {last : Option Int} {gs gs' : List Grp}, (∀ x ∈ xs, 1 ≤ x.2.2) → phi gs = phi gs' → (last = none ∨ gs ≠ []) → phi (groupsGo r xs last gs) = phi (groupsGo r (sing r xs) last gs')
  | [], last, gs, gs', _, h, _ => h
  | x :: xs, last, gs, gs', hx, h, hl => by
    obtain ⟨b, w, t⟩ := x
    have ht : 1 ≤ t := hx (b, w, t) (List.mem_cons_self ..)
    obtain ⟨n, rfl⟩ := Int.eq_ofNat_of_zero_le (show 0 ≤ t by omega)
    obtain ⟨k0, ks, hk⟩ : ∃ k0 ks, wks w n = k0 :: ks := by
      obtain ⟨m, rfl⟩ : ∃ m, n = m + 1 := ⟨n - 1, by omega⟩
      cases w with
      | one k => exact ⟨k, List.replicate m k, rfl⟩
      | two k => exact ⟨_, _, zigs_two k m⟩
    have hl' : last = none ∨ gs' ≠ [] := hl.imp id fun z e => by
      subst e
      exact z (List.map_eq_nil_iff.mp h)
    have o1 := phi_open (b := b) (last := last) h
    have n1 := (openG_sum oneC (b := b) hl).2
    have n2 := (openG_sum oneC (b := b) hl').2
    have e2 : groupsGo r (sing r ((b, w, (n : Int)) :: xs)) last gs' = groupsGo r (lay1 r (b + r.per k0) ks ++ sing r xs) (some (b + r.per k0)) (addG (oneK k0) (openG b last gs')) := by
      show groupsGo r (lay1 r b (wks w n) ++ sing r xs) last gs' = _
      rw [hk]
      show groupsGo r ((b, .one k0, 1) :: (lay1 r (b + r.per k0) ks ++ sing r xs)) last gs' = _
      rw [groupsGo_cons, runEnd1]
      rfl
    have hp := persum_wks r w n
    rw [hk, persum_cons] at hp
    rw [e2, groupsGo_cons]
    show phi (groupsGo r xs (some (b + (n : Int) * w.per r)) (addG (w, (n : Int)) (openG b last gs))) = _
    cases hg : openG b last gs with
    | nil => exact absurd hg n1
    | cons a g =>
      cases hg' : openG b last gs' with
      | nil => exact absurd hg' n2
      | cons a' g' =>
        obtain ⟨b1, l1⟩ := a
        obtain ⟨b2, l2⟩ := a'
        rw [hg, hg'] at o1
        have o1' : (b1, kdsOf l1) :: phi g = (b2, kdsOf l2) :: phi g' := o1
        injection o1' with o2 o3
        injection o2 with o4 o5
        show phi (groupsGo r xs (some (b + (n : Int) * w.per r)) ((b1, l1 ++ [(w, (n : Int))]) :: g)) = phi (groupsGo r (lay1 r (b + r.per k0) ks ++ sing r xs) (some (b + r.per k0)) ((b2, l2 ++ [oneK k0]) :: g'))
        rw [go_lay1, show b + r.per k0 + persum r ks = b + (n : Int) * w.per r by omega]
        refine phi_go r (fun x hxx => hx x (List.mem_cons_of_mem _ hxx)) ?_ (.inr (by simp))
        show (b1, kdsOf (l1 ++ [(w, (n : Int))])) :: phi g = (b2, kdsOf (l2 ++ [oneK k0] ++ ks.map oneK)) :: phi g'
        rw [o3, o4, kdsOf_app, kdsOf_app, kdsOf_app, o5, kdsOf_ones, List.append_assoc]
        have e3 : kdsOf [(w, (n : Int))] = k0 :: ks := by
          show wks w n ++ [] = _
          rw [List.append_nil, hk]
        rw [e3]
        rfl
/-- what tidyRuns makes of groups -/
def layP (r : Rl) (gs : List (Int × List Kd)) : List Run := gs.reverse.flatMap fun g => layGo r g.1 (tidyParts (ones [] g.2))
theorem flatMap_eq {α β : Type} {f g : α → List β} : ∀ {l : List α}, (∀ a ∈ l, f a = g a) → l.flatMap f = l.flatMap g
  | [], _ => rfl
  | a :: l, h => by
    rw [List.flatMap_cons, List.flatMap_cons, h a (List.mem_cons_self ..), flatMap_eq fun b hb => h b (List.mem_cons_of_mem _ hb)]
theorem lay_phi {r : Rl} {gs : List Grp} (h : ∀ g ∈ gs, ∀ y ∈ g.2, 1 ≤ y.2) : layAll r gs.reverse = layP r (phi gs) := by
  unfold layAll layP phi
  rw [← List.map_reverse, List.flatMap_map]
  refine flatMap_eq fun g hg => ?_
  show layGo r g.1 (tidyParts (putAll g.2 [])) = _
  rw [putAll_ones (ps := []) trivial (h g (List.mem_reverse.mp hg))]
theorem lay1_t1 (r : Rl) : ∀ (a : Int) (ks : List Kd), ∀ x ∈ lay1 r a ks, 1 ≤ x.2.2
  | _, [], x, h => by cases h
  | a, k :: ks, x, h => by
    rcases List.mem_cons.mp h with rfl | h
    · exact Int.le_refl 1
    · exact lay1_t1 r _ ks x h
theorem sing_t1 (r : Rl) (xs : List Run) : ∀ x ∈ sing r xs, 1 ≤ x.2.2 := fun x h => by
  obtain ⟨y, _, h2⟩ := List.mem_flatMap.mp h
  exact lay1_t1 r _ _ x h2
/-- the tidy form depends on the marks alone -/
theorem tidy_sing {r : Rl} {xs : List Run} (h : ∀ x ∈ xs, 1 ≤ x.2.2) : tidyRuns r xs = layP r (phi (groupsGo r (sing r xs) none [])) := by
  rw [tidyRuns_eq, lay_phi (fun g hg => (groups_ok h).1 g (List.mem_reverse.mpr hg)), phi_go r h (gs := []) (gs' := []) rfl (.inl rfl)]
theorem tidy_eq {r : Rl} {xs ys : List Run} (hx : ∀ x ∈ xs, 1 ≤ x.2.2) (hy : ∀ x ∈ ys, 1 ≤ x.2.2) (e : sing r xs = sing r ys) : tidyRuns r xs = tidyRuns r ys := by rw [tidy_sing hx, tidy_sing hy, e]
end Sq
end
section
set_option Elab.async false
set_option linter.all false
set_option maxRecDepth 100000
set_option maxHeartbeats 4000000
set_option exponentiation.threshold 500
/-! The clock decision by decision: jumps change nothing but how the marks are written. -/
namespace Sq
open PySem PyProof.Rows
theorem MSt.eq_of {a b : MSt} (h1 : a.rules = b.rules) (h2 : a.logged = b.logged) (h3 : a.kind = b.kind) (h4 : a.beg = b.beg) (h5 : a.heard = b.heard) (h6 : a.other = b.other) (h7 : a.own = b.own) (h8 : a.down = b.down) (h9 : a.runs = b.runs) (h10 : a.cnt = b.cnt) (h11 : a.log = b.log) : a = b := by
  cases a
  cases b
  simp only at h1 h2 h3 h4 h5 h6 h7 h8 h9 h10 h11
  subst h1 h2 h3 h4 h5 h6 h7 h8 h9 h10 h11
  rfl
/-- the decision of a mark -/
def MSt.dec1 (s : MSt) (k : Kd) : MSt := (heardSt s k).decide (s.beg + s.rules.per k) k
/-- the hearing, if it is due -/
def hearTo (t : Int) (s : MSt) (k : Kd) : MSt := if s.rules.canHear k && !s.heard && decide (t < s.beg + s.rules.d) then s else heardSt s k
inductive Slow (t : Int) : MSt → MSt → Prop
  | idle {s : MSt} (h : s.kind = none) : Slow t s s
  | stop {s : MSt} {k : Kd} (h : s.kind = some k) (l : t < s.beg + s.rules.per k) : Slow t s (hearTo t s k)
  | go {s s' : MSt} {k : Kd} (h : s.kind = some k) (l : s.beg + s.rules.per k ≤ t) (n : Slow t (s.dec1 k) s') : Slow t s s'
theorem Slow.det {t : Int} {s a b : MSt} (h : Slow t s a) : Slow t s b → a = b := by
  induction h with
  | idle h =>
    intro g
    cases g with
    | idle _ => rfl
    | stop h2 _ => rw [h] at h2; cases h2
    | go h2 _ _ => rw [h] at h2; cases h2
  | stop h l =>
    intro g
    cases g with
    | idle h2 => rw [h] at h2; cases h2
    | stop h2 l2 => rw [h] at h2; cases h2; rfl
    | go h2 l2 _ => rw [h] at h2; cases h2; omega
  | go h l n ih =>
    intro g
    cases g with
    | idle h2 => rw [h] at h2; cases h2
    | stop h2 l2 => rw [h] at h2; cases h2; omega
    | go h2 l2 n2 => rw [h] at h2; cases h2; exact ih n2
theorem heardSt_idem (s : MSt) (k : Kd) : heardSt (heardSt s k) k = heardSt s k := by
  have f := heardSt_f s k
  have key : ((heardSt s k).rules.canHear k && !(heardSt s k).heard) = false := by
    rw [f.rl]
    unfold heardSt
    split
    · have : (s.hear (s.beg + s.rules.d) k).heard = true := by
        unfold MSt.hear
        simp only
        split <;> rfl
      rw [this]
      simp
    · rename_i h
      exact Bool.not_eq_true _ ▸ h
  show (if (heardSt s k).rules.canHear k && !(heardSt s k).heard then _ else _) = _
  rw [key]
  rfl
theorem hearTo_f (t : Int) (s : MSt) (k : Kd) : HearF s (hearTo t s k) := by
  unfold hearTo
  split
  · exact ⟨rfl, rfl, rfl, rfl, by omega, rfl, rfl⟩
  · exact heardSt_f s k
theorem hearTo_heard (t : Int) (s : MSt) (k : Kd) : heardSt (hearTo t s k) k = heardSt s k := by
  unfold hearTo
  split
  · rfl
  · exact heardSt_idem s k
theorem hearTo_dec (t : Int) (s : MSt) (k : Kd) : (hearTo t s k).dec1 k = s.dec1 k := by
  unfold MSt.dec1
  rw [hearTo_heard, (hearTo_f t s k).b, (hearTo_f t s k).rl]
theorem hearTo_two {t u : Int} (h : t ≤ u) (s : MSt) (k : Kd) : hearTo u (hearTo t s k) k = hearTo u s k := by
  by_cases c : (s.rules.canHear k && !s.heard && decide (t < s.beg + s.rules.d)) = true
  · have e : hearTo t s k = s := by unfold hearTo; rw [if_pos c]
    rw [e]
  · have e : hearTo t s k = heardSt s k := by unfold hearTo; rw [if_neg c]
    rw [e]
    have e2 : hearTo u s k = heardSt s k := by
      unfold hearTo
      rw [if_neg]
      intro z
      apply c
      simp only [Bool.and_eq_true, decide_eq_true_eq] at z ⊢
      exact ⟨z.1, by omega⟩
    rw [e2]
    unfold hearTo
    rw [heardSt_idem]
    split <;> rfl
/-- up to a tick, then up to a later one -/
theorem Slow.later {t u : Int} {s a b : MSt} (h : Slow t s a) (tu : t ≤ u) : Slow u a b → Slow u s b := by
  induction h with
  | idle h => exact id
  | @stop s k h l =>
    intro g
    have f := hearTo_f t s k
    have hk : (hearTo t s k).kind = some k := f.k.trans h
    cases g with
    | idle h2 => rw [hk] at h2; cases h2
    | stop h2 l2 =>
      rw [hk] at h2
      cases h2
      rw [hearTo_two tu]
      rw [f.b, f.rl] at l2
      exact .stop h l2
    | go h2 l2 n =>
      rw [hk] at h2
      cases h2
      rw [hearTo_dec] at n
      rw [f.b, f.rl] at l2
      exact .go h l2 n
  | go h l n ih => exact fun g => .go h (by omega) (ih g)
/-- all marks up to rest -/
inductive Rest1 : MSt → MSt → Prop
  | idle {s : MSt} (h : s.kind = none) : Rest1 s s
  | go {s s' : MSt} {k : Kd} (h : s.kind = some k) (n : Rest1 (s.dec1 k) s') : Rest1 s s'
theorem Rest1.det {s a b : MSt} (h : Rest1 s a) : Rest1 s b → a = b := by
  induction h with
  | idle h =>
    intro g
    cases g with
    | idle _ => rfl
    | go h2 _ => rw [h] at h2; cases h2
  | go h n ih =>
    intro g
    cases g with
    | idle h2 => rw [h] at h2; cases h2
    | go h2 n2 => rw [h] at h2; cases h2; exact ih n2
theorem Slow.rest {t : Int} {s a b : MSt} (h : Slow t s a) : Rest1 a b → Rest1 s b := by
  induction h with
  | idle h => exact id
  | @stop s k h l =>
    intro g
    have hk : (hearTo t s k).kind = some k := (hearTo_f t s k).k.trans h
    cases g with
    | idle h2 => rw [hk] at h2; cases h2
    | go h2 n =>
      rw [hk] at h2
      cases h2
      rw [hearTo_dec] at n
      exact .go h n
  | go h l n ih => exact fun g => .go h (ih g)
/-! ### marks as they are -/
def nf (s : MSt) : MSt := { s with runs := sing s.rules s.runs }
theorem sing_snoc (r : Rl) (xs : List Run) (t : Int) (k : Kd) : sing r (xs ++ [(t, .one k, 1)]) = sing r xs ++ [(t, .one k, 1)] := by rw [sing_app]; rfl
theorem nf_note (s : MSt) (t : Int) (x : Sw) : nf (s.note t x) = (nf s).note t x := rfl
theorem nf_hear (s : MSt) (t : Int) (k : Kd) : nf (s.hear t k) = (nf s).hear t k := by
  unfold MSt.hear
  show nf (if s.heldOther k then _ else _) = (if s.heldOther k then _ else _)
  split <;> rfl
theorem nf_heardSt (s : MSt) (k : Kd) : nf (heardSt s k) = heardSt (nf s) k := by
  unfold heardSt
  show nf (if s.rules.canHear k && !s.heard then _ else _) = (if s.rules.canHear k && !s.heard then _ else _)
  split
  · exact nf_hear _ _ _
  · rfl
theorem nf_start (s : MSt) (t : Int) (k : Kd) : nf (s.start t k) = (nf s).start t k := by
  unfold MSt.start
  show nf (if (decide (s.rules.d = 0) && s.rules.canHear k) && s.heldOther k then _ else _) = (if (decide (s.rules.d = 0) && s.rules.canHear k) && s.heldOther k then _ else _)
  split
  · refine MSt.eq_of rfl rfl rfl rfl rfl rfl rfl rfl ?_ rfl rfl
    exact sing_snoc _ _ _ _
  · refine MSt.eq_of rfl rfl rfl rfl rfl rfl rfl rfl ?_ rfl rfl
    exact sing_snoc _ _ _ _
theorem nf_decide (s : MSt) (t : Int) (k : Kd) : nf (s.decide t k) = (nf s).decide t k := by
  unfold MSt.decide
  show nf (match outcome s.rules k s.down s.other s.own with | none => _ | some k' => _) = (match outcome s.rules k s.down s.other s.own with | none => _ | some k' => _)
  split
  · rfl
  · exact nf_start _ _ _
theorem nf_dec1 (s : MSt) (k : Kd) : nf (s.dec1 k) = (nf s).dec1 k := by
  unfold MSt.dec1
  rw [nf_decide, nf_heardSt]
  rfl
theorem nf_hearTo (t : Int) (s : MSt) (k : Kd) : nf (hearTo t s k) = hearTo t (nf s) k := by
  unfold hearTo
  show nf (if s.rules.canHear k && !s.heard && decide (t < s.beg + s.rules.d) then _ else _) = (if s.rules.canHear k && !s.heard && decide (t < s.beg + s.rules.d) then _ else _)
  split
  · rfl
  · exact nf_heardSt _ _
theorem nf_happen (s : MSt) (t : Int) (k : Kd) (dn : Bool) : nf (s.happen t k dn) = (nf s).happen t k dn := by
  cases dn with
  | false => rw [happen_false, happen_false]; rfl
  | true =>
    rw [happen_true, happen_true]
    unfold hapEnd
    show nf (match s.kind with | none => _ | some k' => _) = (match s.kind with | none => _ | some k' => _)
    split
    · exact nf_start _ _ _
    · rename_i k' hk
      show nf (if s.heard && decide (k = k') && s.rules.ag && !s.own then _ else if s.heard && decide (k ≠ k') && decide (s.rules.rem ≠ .no) && !s.other then _ else _) = (if s.heard && decide (k = k') && s.rules.ag && !s.own then _ else if s.heard && decide (k ≠ k') && decide (s.rules.rem ≠ .no) && !s.other then _ else _)
      split
      · rfl
      · split <;> rfl
end Sq
end
section
set_option Elab.async false
set_option linter.all false
set_option maxRecDepth 100000
set_option maxHeartbeats 4000000
set_option exponentiation.threshold 500
/-! A jump is many decisions. -/
namespace Sq
open PySem PyProof.Rows
/-- what a mark's hearing notes, what its begin notes -/
def hN (s : MSt) (k : Kd) (x : Sw) : Int := (if s.rules.canHear k && decide (0 < s.rules.d) then (if x = .hear then 1 else 0) + (if s.heldOther k then (if x = .remember k.ot then 1 else 0) else 0) else 0)
def bN (s : MSt) (k : Kd) (x : Sw) : Int := (if x = .begin k then 1 else 0) + (if (decide (s.rules.d = 0) && s.rules.canHear k) && s.heldOther k then (if x = .remember k.ot then 1 else 0) else 0)
def addF (c : Sw → Int) (g : Sw → Int) : Sw → Int := fun x => c x + g x
theorem addC_x (w x : Sw) (n : Int) (c : Sw → Int) : addC w n c x = c x + (if x = w then n else 0) := by
  unfold addC
  split <;> omega
theorem held_hear {s : MSt} {k : Kd} (h : s.heldOther k = true) : s.rules.canHear k = true := by
  unfold MSt.heldOther at h
  rw [Bool.and_eq_true, Bool.and_eq_true] at h
  exact h.1.2
theorem skipC_x {s : MSt} (ok : s.rules.Ok) (t : Int) (c : Sw → Int) (k : Kd) (x : Sw) : skipC s t c k x = c x + t * (hN s k x + bN s k x) := by
  have d0 := ok.d0
  unfold skipC hN bN
  cases hh : s.heldOther k with
  | true =>
    have hc := held_hear hh
    rw [hc]
    by_cases hd : 0 < s.rules.d
    · have hd2 : ¬ s.rules.d = 0 := by omega
      simp only [decide_eq_true hd, decide_eq_false hd2, Bool.and_true, Bool.and_false, if_true, Bool.false_eq_true, if_false, Bool.true_and, Bool.false_and, addC_x]
      split <;> split <;> split <;> simp_all <;> omega
    · have hd2 : s.rules.d = 0 := by omega
      simp only [decide_eq_false hd, decide_eq_true hd2, Bool.and_true, Bool.and_false, if_true, Bool.false_eq_true, if_false, Bool.true_and, Bool.false_and, addC_x]
      split <;> split <;> simp_all <;> omega
  | false =>
    simp only [Bool.false_eq_true, if_false, Bool.and_false, Int.add_zero]
    by_cases hd : (s.rules.canHear k && decide (0 < s.rules.d)) = true
    · simp only [hd, if_true, addC_x]
      split <;> split <;> simp_all <;> omega
    · rw [if_neg hd, if_neg hd, addC_x]
      split <;> simp
/-- a mark that has just begun, one decision on -/
theorem fresh_dec {s : MSt} {k k' : Kd} (ok : s.rules.Ok) (f : Fresh s k) (hl : s.logged = false) (hf : s.following k = some k') :
    s.dec1 k = { s with kind := some k', beg := s.beg + s.rules.per k, heard := decide (s.rules.d = 0) && s.rules.canHear k', other := (decide (s.rules.d = 0) && s.rules.canHear k') && s.heldOther k', own := false, runs := s.runs ++ [(s.beg + s.rules.per k, .one k', 1)], cnt := addF (addF s.cnt (hN s k)) (bN s k') } := by
  have d0 := ok.d0
  have hs := heardSt_f s k
  have ho := f.out
  have e1 : s.dec1 k = (heardSt s k).start (s.beg + s.rules.per k) k' := by
    unfold MSt.dec1 MSt.decide
    rw [ho, hf]
  have ec : (heardSt s k).cnt = addF s.cnt (hN s k) := by
    funext x
    unfold heardSt
    have hh := f.he
    by_cases c : (s.rules.canHear k && !s.heard) = true
    · rw [if_pos c]
      rw [Bool.and_eq_true] at c
      obtain ⟨c1, c2⟩ := c
      rw [hh, c1, Bool.and_true] at c2
      have hd : 0 < s.rules.d := by
        have : ¬ s.rules.d = 0 := fun z => by rw [decide_eq_true z] at c2; cases c2
        omega
      unfold addF hN
      rw [c1, decide_eq_true hd]
      unfold MSt.hear
      simp only
      split
      · rename_i h4
        show addC (.remember k.ot) 1 (addC .hear 1 s.cnt) x = _
        rw [addC_x, addC_x]
        simp only [Bool.and_true, if_true]
        omega
      · rename_i h4
        show addC .hear 1 s.cnt x = _
        rw [addC_x]
        simp only [Bool.and_true, if_true, Int.add_zero]
    · rw [if_neg c]
      unfold addF hN
      rw [if_neg]
      · omega
      · intro z
        rw [Bool.and_eq_true] at z
        apply c
        rw [hh, z.1]
        have : ¬ s.rules.d = 0 := by have := of_decide_eq_true z.2; omega
        rw [decide_eq_false this]
        rfl
  have el : (heardSt s k).log = s.log := hear_nolog hl k
  have hh : ∀ j, (heardSt s k).heldOther j = s.heldOther j := fun j => by unfold MSt.heldOther; rw [hs.rl, hs.d]
  rw [e1]
  unfold MSt.start
  simp only [hh, hs.rl]
  split
  · rename_i hb
    refine MSt.eq_of rfl hs.lg rfl rfl rfl (by show true = _; rw [hb]) rfl hs.d (by show (heardSt s k).runs ++ _ = _; rw [hs.r]) ?_ ?_
    · funext x
      show addC (.remember k'.ot) 1 (addC (.begin k') 1 (heardSt s k).cnt) x = addF (addF s.cnt (hN s k)) (bN s k') x
      rw [addC_x, addC_x, ec]
      unfold addF bN
      rw [hb]
      simp only [if_true]
      omega
    · simp [MSt.noteOther, MSt.note, hs.lg, hl, el]
  · rename_i hb
    refine MSt.eq_of rfl hs.lg rfl rfl rfl (by show false = _; rw [Bool.not_eq_true] at hb; rw [hb]) rfl hs.d (by show (heardSt s k).runs ++ _ = _; rw [hs.r]) ?_ ?_
    · funext x
      show addC (.begin k') 1 (heardSt s k).cnt x = addF (addF s.cnt (hN s k)) (bN s k') x
      rw [addC_x, ec]
      unfold addF bN
      rw [if_neg hb]
      omega
    · simp [MSt.noteOther, MSt.note, hs.lg, hl, el]
theorem fold_skip {s : MSt} (ok : s.rules.Ok) (t : Int) (x : Sw) : ∀ (ks : List Kd) (c : Sw → Int), ks.foldl (skipC s t) c x = c x + t * (ks.map fun k => hN s k x + bN s k x).sum
  | [], c => by simp
  | k :: ks, c => by
    rw [List.foldl_cons, fold_skip ok t x ks, skipC_x ok, List.map_cons, List.sum_cons, Int.mul_add t (hN s k x + bN s k x)]
    omega
theorem Fresh.nf {s : MSt} {k : Kd} (f : Fresh s k) : Fresh (nf s) k := ⟨f.kd, f.ow, f.he, f.ot⟩
theorem skip1_slow {s x : MSt} {k : Kd} {w : Wd} {t : Int} (ok : s.rules.Ok) (f : Fresh s k) (hl : s.logged = false) (hw : s.word k = some w) (hb : s.beg + w.per s.rules ≤ t) (h : Slow t (nf (s.skip w 1 k)) x) : Slow t (nf s) x := by
  have hp := word_per ok hw
  unfold MSt.word at hw
  cases hf : s.following k with
  | none => rw [hf] at hw; cases hw
  | some k' =>
    rw [hf] at hw
    simp only at hw
    have e1 := fresh_dec (s := nf s) ok f.nf hl hf
    split at hw
    · rename_i hk
      subst hk
      cases hw
      refine .go f.kd (show s.beg + s.rules.per k' ≤ t by omega) ?_
      have e : (nf s).dec1 k' = nf (s.skip (.one k') 1 k') := by
        rw [e1]
        refine MSt.eq_of rfl rfl f.kd.symm ?_ f.he.symm (by show _ = s.other; rw [f.ot, f.he]; rfl) f.ow.symm rfl ?_ ?_ rfl
        · show s.beg + s.rules.per k' = s.beg + Wd.per s.rules (.one k') * 1
          rw [per_one]
          omega
        · exact (sing_snoc _ _ _ _).symm
        · funext y
          show s.cnt y + hN s k' y + bN s k' y = skipC s 1 s.cnt k' y
          rw [skipC_x ok]
          omega
      rw [e]
      exact h
    · rename_i hk
      split at hw
      · rename_i hf2
        cases hw
        have ek : k'.ot = k := by cases k' <;> cases k <;> first | rfl | exact absurd rfl hk
        rw [per_two, ek] at hb
        refine .go f.kd (show s.beg + s.rules.per k ≤ t by have := Wd.per_ge ok k'; omega) ?_
        rw [e1]
        generalize hs2 : ({ nf s with kind := some k', beg := (nf s).beg + (nf s).rules.per k, heard := decide ((nf s).rules.d = 0) && (nf s).rules.canHear k', other := (decide ((nf s).rules.d = 0) && (nf s).rules.canHear k') && (nf s).heldOther k', own := false, runs := (nf s).runs ++ [((nf s).beg + (nf s).rules.per k, .one k', 1)], cnt := addF (addF (nf s).cnt (hN (nf s) k)) (bN (nf s) k') } : MSt) = s2
        have f2 : Fresh s2 k' := by rw [← hs2]; exact ⟨rfl, rfl, rfl, rfl⟩
        have e2 := fresh_dec (s := s2) (by rw [← hs2]; exact ok) f2 (by rw [← hs2]; exact hl) (k' := k) (by rw [← hs2]; exact hf2)
        have e : s2.dec1 k' = nf (s.skip (.two k') 1 k) := by
          rw [e2, ← hs2]
          refine MSt.eq_of rfl rfl f.kd.symm ?_ f.he.symm (by show _ = s.other; rw [f.ot, f.he]; rfl) f.ow.symm rfl ?_ ?_ rfl
          · show s.beg + s.rules.per k + s.rules.per k' = s.beg + Wd.per s.rules (.two k') * 1
            rw [per_two, ek]
            omega
          · show (sing s.rules s.runs ++ [(s.beg + s.rules.per k, Wd.one k', 1)]) ++ [(s.beg + s.rules.per k + s.rules.per k', Wd.one k, 1)] = sing s.rules (s.runs ++ [(s.beg + s.rules.per k, Wd.two k', 1)])
            rw [sing_app, List.append_assoc]
            congr 1
            show _ = ((s.beg + s.rules.per k, Wd.one k', (1 : Int)) :: (s.beg + s.rules.per k + s.rules.per k', Wd.one k'.ot, (1 : Int)) :: []) ++ []
            rw [ek]
            rfl
          · funext y
            show s.cnt y + hN s k y + bN s k' y + hN s k' y + bN s k y = [k', k'.ot].foldl (skipC s 1) s.cnt y
            rw [fold_skip ok, ek]
            simp only [List.map_cons, List.map_nil, List.sum_cons, List.sum_nil]
            omega
        refine .go (k := k') f2.kd (by rw [← hs2]; show s.beg + s.rules.per k + s.rules.per k' ≤ t; omega) ?_
        rw [e]
        exact h
      · cases hw
theorem lay1_app (r : Rl) : ∀ (a : Int) (x y : List Kd), lay1 r a (x ++ y) = lay1 r a x ++ lay1 r (a + persum r x) y
  | a, [], y => by show lay1 r a y = lay1 r (a + 0) y; rw [Int.add_zero]
  | a, k :: x, y => by
    show (a, Wd.one k, (1 : Int)) :: lay1 r (a + r.per k) (x ++ y) = (a, Wd.one k, (1 : Int)) :: (lay1 r (a + r.per k) x ++ lay1 r (a + (r.per k + persum r x)) y)
    rw [lay1_app r (a + r.per k) x y, Int.add_assoc]
theorem wks_succ : ∀ (w : Wd) (n : Nat), wks w (n + 1) = wks w 1 ++ wks w n
  | .one k, n => rfl
  | .two k, n => zigs_two k n
theorem expand_add (r : Rl) (b : Int) (w : Wd) (n : Nat) : expand r (b, w, ((n + 1 : Nat) : Int)) = expand r (b, w, 1) ++ expand r (b + w.per r, w, (n : Int)) := by
  show lay1 r b (wks w (n + 1)) = lay1 r b (wks w 1) ++ lay1 r (b + w.per r) (wks w n)
  rw [wks_succ, lay1_app, persum_wks]
  congr 2
  show b + ((1 : Nat) : Int) * w.per r = _
  omega
theorem skip_add {s : MSt} (ok : s.rules.Ok) {w : Wd} {k : Kd} (n : Nat) : nf (s.skip w ((n + 1 : Nat) : Int) k) = nf ((s.skip w 1 k).skip w (n : Int) k) := by
  refine MSt.eq_of rfl rfl rfl ?_ rfl rfl rfl rfl ?_ ?_ rfl
  · show s.beg + w.per s.rules * ((n + 1 : Nat) : Int) = s.beg + w.per s.rules * 1 + w.per s.rules * (n : Int)
    rw [Int.natCast_add, Int.mul_add]
    show s.beg + (w.per s.rules * (n : Int) + w.per s.rules * 1) = _
    omega
  · show sing s.rules (s.runs ++ [(s.beg + s.rules.per k, w, ((n + 1 : Nat) : Int))]) = sing s.rules ((s.runs ++ [(s.beg + s.rules.per k, w, 1)]) ++ [(s.beg + w.per s.rules * 1 + s.rules.per k, w, (n : Int))])
    rw [sing_app, sing_app, sing_app, List.append_assoc]
    congr 1
    show expand s.rules (s.beg + s.rules.per k, w, ((n + 1 : Nat) : Int)) ++ [] = (expand s.rules (s.beg + s.rules.per k, w, 1) ++ []) ++ (expand s.rules (s.beg + w.per s.rules * 1 + s.rules.per k, w, (n : Int)) ++ [])
    rw [List.append_nil, List.append_nil, List.append_nil, expand_add]
    congr 3
    omega
  · funext y
    show w.ks.foldl (skipC s ((n + 1 : Nat) : Int)) s.cnt y = w.ks.foldl (skipC (s.skip w 1 k) (n : Int)) (w.ks.foldl (skipC s 1) s.cnt) y
    rw [fold_skip ok, fold_skip (s := s.skip w 1 k) ok, fold_skip ok]
    have e : (w.ks.map fun j => hN (s.skip w 1 k) j y + bN (s.skip w 1 k) j y) = w.ks.map fun j => hN s j y + bN s j y := rfl
    rw [e, Int.natCast_add, Int.add_mul]
    omega
theorem skip_slow : ∀ (n : Nat) {s x : MSt} {k : Kd} {w : Wd} {t : Int}, 1 ≤ n → s.rules.Ok → Fresh s k → s.logged = false → s.word k = some w → s.beg + w.per s.rules * (n : Int) ≤ t → Slow t (nf (s.skip w (n : Int) k)) x → Slow t (nf s) x
  | 0, _, _, _, _, _, h, _, _, _, _, _, _ => absurd h (by omega)
  | 1, s, x, k, w, t, _, ok, f, hl, hw, hb, h => skip1_slow ok f hl hw (by simpa using hb) h
  | n + 2, s, x, k, w, t, _, ok, f, hl, hw, hb, h => by
    have hp := Wd.per_pos ok w
    have e : ((n + 2 : Nat) : Int) = ((n + 1 : Nat) : Int) + 1 := rfl
    have hb2 : s.beg + w.per s.rules * 1 + w.per s.rules * ((n + 1 : Nat) : Int) ≤ t := by
      rw [e, Int.mul_add] at hb
      omega
    have h0 : 0 ≤ w.per s.rules * ((n + 1 : Nat) : Int) := Int.mul_nonneg (by omega) (by omega)
    refine skip1_slow ok f hl hw (by omega) ?_
    refine skip_slow (n + 1) (s := s.skip w 1 k) (k := k) (w := w) (by omega) ok f.skip hl hw hb2 ?_
    rw [← skip_add ok]
    exact h
/-- a jump is many decisions -/
theorem jump_slow {s x : MSt} {k : Kd} {t : Int} (ok : s.rules.Ok) (f : Fresh s k) (hl : s.logged = false) (h : Slow t (nf (s.jump t k)) x) : Slow t (nf s) x := by
  unfold MSt.jump at h
  cases hw : s.word k with
  | none => rw [hw] at h; exact h
  | some w =>
    rw [hw] at h
    simp only [hl, Bool.false_eq_true, if_false] at h
    have hp := Wd.per_pos ok w
    split at h
    · rename_i h0
      obtain ⟨n, hn⟩ := Int.eq_ofNat_of_zero_le (show 0 ≤ (t - s.beg) / w.per s.rules by omega)
      rw [hn] at h h0
      refine skip_slow n (by omega) ok f hl hw ?_ h
      have := Int.mul_ediv_self_le (x := t - s.beg) (k := w.per s.rules) (by omega)
      rw [hn] at this
      show s.beg + w.per s.rules * (n : Int) ≤ t
      have e : ((Int.ofNat n) : Int) = (n : Int) := rfl
      omega
    · exact h
/-- the clock, mark by mark -/
theorem adv_slow : ∀ {n : Nat} {t : Int} {s : MSt}, s.rules.Ok → s.logged = false → AdvOk n t s → Slow t (nf s) (nf (advGo n t s))
  | 0, t, s, _, _, h => .idle h
  | n + 1, t, s, ok, hl, h => by
    rcases h with h | ⟨k, hk, tok, hr⟩
    · rw [advGo_none h]
      exact .idle h
    · have fh := heardSt_f s k
      have hto : ∀ s1, t < s.beg + s.rules.per k → s1 = hearTo t s k → Slow t (nf s) (nf s1) := fun s1 l e => by
        rw [e, nf_hearTo]
        exact .stop hk l
      by_cases h1 : (s.rules.canHear k && !s.heard && decide (t < s.beg + s.rules.d)) = true
      · have h2 := h1
        rw [Bool.and_eq_true] at h2
        rw [advGo_stop hk (turn_wait h2.1 (of_decide_eq_true h2.2))]
        refine hto s ?_ (by unfold hearTo; rw [if_pos h1])
        have h3 := h2.1
        rw [Bool.and_eq_true] at h3
        have h4 := h3.1
        unfold Rl.canHear at h4
        rw [Bool.and_eq_true] at h4
        have h5 := of_decide_eq_true h4.2
        have h6 := of_decide_eq_true h2.2
        omega
      · rw [Bool.not_eq_true] at h1
        by_cases h2 : t < (heardSt s k).beg + (heardSt s k).rules.per k
        · rw [advGo_stop hk (turn_stop h1 h2)]
          rw [fh.b, fh.rl] at h2
          exact hto _ h2 (by unfold hearTo; rw [h1]; rfl)
        · have e := turn_go h1 h2
          rw [fh.b, fh.rl] at e h2
          rw [advGo_go hk e]
          have hr2 := hr (by rw [e])
          rw [e] at hr2
          refine .go hk (show s.beg + s.rules.per k ≤ t by omega) ?_
          rw [← nf_dec1]
          have hdk := (hear_kept s k).trans (dec_kept (heardSt s k) (s.beg + s.rules.per k) k)
          have okd : (s.dec1 k).rules.Ok := by rw [show (s.dec1 k).rules = s.rules from hdk.rl]; exact ok
          have hld : (s.dec1 k).logged = false := hdk.lg.trans hl
          have ih := adv_slow (n := n) (t := t) (s := decJump t (s.dec1 k)) (by rw [(decJump_kept t _).rl]; exact okd) ((decJump_kept t _).lg.trans hld) hr2
          show Slow t (nf (s.dec1 k)) (nf (advGo n t (decJump t (s.dec1 k))))
          generalize advGo n t (decJump t (s.dec1 k)) = z at ih
          unfold decJump at ih
          cases hkd : (s.dec1 k).kind with
          | none => rw [hkd] at ih; exact ih
          | some k' =>
            rw [hkd] at ih
            refine jump_slow okd ?_ hld ih
            have hd : ∃ tt, s.dec1 k = (heardSt s k).start tt k' := by
              unfold MSt.dec1 MSt.decide at hkd ⊢
              cases ho : outcome (heardSt s k).rules k (heardSt s k).down (heardSt s k).other (heardSt s k).own with
              | none => rw [ho] at hkd; cases hkd
              | some k2 =>
                rw [ho] at hkd
                have := (start_fresh (heardSt s k) (s.beg + s.rules.per k) k2).kd
                rw [show ((heardSt s k).start (s.beg + s.rules.per k) k2).kind = some k' from hkd] at this
                cases this
                exact ⟨_, rfl⟩
            obtain ⟨tt, hd⟩ := hd
            rw [hd]
            exact start_fresh _ _ _
end Sq
end
section
set_option Elab.async false
set_option linter.all false
set_option maxRecDepth 100000
set_option maxHeartbeats 4000000
/-! The tidy form has the same marks. -/
namespace Sq
open PySem PyProof.Rows
/-- a part's marks -/
def ptK (p : Part) : List Kd := if p.2.2 then zigs p.1 p.2.1.toNat else List.replicate p.2.1.toNat p.1
def ptsK (ps : List Part) : List Kd := ps.flatMap ptK
/-- a part's last kind -/
def endK (p : Part) : Kd := if p.2.2 && decide (p.2.1 % 2 = 0) then p.1.ot else p.1
/-- each part begins with the other kind than the one ahead ends with; parts in their sequence -/
def Fw : List Part → Prop
  | [] => True
  | [_] => True
  | p :: q :: r => q.1 = (endK p).ot ∧ Fw (q :: r)
theorem Fw.tl {p : Part} {r : List Part} (h : Fw (p :: r)) : Fw r := by
  cases r with
  | nil => trivial
  | cons q r => exact h.2
theorem Fw.put {p p' : Part} {r : List Part} (h : Fw (p :: r)) (e : endK p' = endK p) : Fw (p' :: r) := by
  cases r with
  | nil => trivial
  | cons q r => exact ⟨h.1.trans (by rw [e]), h.2⟩
theorem zigs_add : ∀ (a b : Nat) (k : Kd), zigs k (2 * a + b) = zigs k (2 * a) ++ zigs k b
  | 0, b, k => by rw [Nat.mul_zero, Nat.zero_add]; rfl
  | a + 1, b, k => by
    rw [show 2 * (a + 1) + b = (2 * a + b) + 1 + 1 by omega]
    show k :: k.ot :: zigs k.ot.ot (2 * a + b) = _
    rw [zigs_two, Kd.ot_ot, zigs_add a b k]
    rfl
theorem kds_one (w : Wd) (n : Int) : kdsOf [(w, n)] = wks w n.toNat := by
  show wks w n.toNat ++ [] = _
  rw [List.append_nil]
theorem end_alt {k : Kd} {m : Int} : endK (k, m, true) = if m % 2 = 0 then k.ot else k := by
  unfold endK
  by_cases h : m % 2 = 0
  · simp [h]
  · simp [h]
theorem ptsK_cons (p : Part) (r : List Part) : ptsK (p :: r) = ptK p ++ ptsK r := rfl
theorem step_marks {k : Kd} {m : Int} {alt : Bool} {left : List Part} (h : PI ((k, m, alt) :: left)) (hf : Fw ((k, m, alt) :: left)) :
    kdsOf (tidyStep k m alt left).1 ++ ptsK (tidyStep k m alt left).2 = ptsK ((k, m, alt) :: left) ∧ Fw (tidyStep k m alt left).2 := by
  have hm : 1 ≤ m := h.1
  have hl := h.tl
  cases alt with
  | false =>
    rw [ts0 (by have := h.2.1 rfl; omega)]
    refine ⟨?_, hf.tl⟩
    rw [kds_one, ptsK_cons]
    rfl
  | true =>
    generalize hah : m + (if left ≠ [] then (1 : Int) else 0) = ah
    have hb : m ≤ ah ∧ ah ≤ m + 1 := by
      rw [← hah]
      split <;> omega
    by_cases h4 : ah < 4
    · by_cases h1 : 1 < m
      · rw [tsA1 hah h4 h1]
        obtain ⟨n, hn⟩ : ∃ n : Nat, m.toNat = n + 1 := ⟨m.toNat - 1, by omega⟩
        refine ⟨?_, hf.put ?_⟩
        · rw [kds_one, ptsK_cons, ptsK_cons]
          show [k] ++ (zigs k.ot (m - 1).toNat ++ ptsK left) = zigs k m.toNat ++ ptsK left
          rw [hn, show (m - 1).toNat = n by omega]
          rfl
        · rw [end_alt, end_alt]
          by_cases h2 : m % 2 = 0
          · rw [if_pos h2, if_neg (by omega)]
          · rw [if_neg h2, if_pos (by omega), Kd.ot_ot]
      · have h1 : m = 1 := by omega
        subst h1
        rw [tsA2 hah h4 rfl]
        exact ⟨by rw [kds_one, ptsK_cons]; rfl, hf.tl⟩
    · obtain ⟨q, hq⟩ : ∃ q : Nat, ah / 2 = q := Int.eq_ofNat_of_zero_le (by omega)
      have ezig : zigs k (2 * q) = wks (.two k) (ah / 2).toNat := by
        rw [hq]
        rfl
      rcases Int.lt_trichotomy (ah / 2 * 2) m with h1 | h1 | h1
      · rw [tsB1 hah h4 h1]
        refine ⟨?_, hf.put ?_⟩
        · rw [kds_one, ptsK_cons, ptsK_cons, ← ezig, ← List.append_assoc]
          congr 1
          show zigs k (2 * q) ++ zigs k (m - ah / 2 * 2).toNat = zigs k m.toNat
          rw [← zigs_add]
          congr 1
          omega
        · rw [end_alt, end_alt]
          by_cases h2 : m % 2 = 0
          · rw [if_pos h2, if_pos (by omega)]
          · rw [if_neg h2, if_neg (by omega)]
      · rw [tsB3 hah h4 h1]
        refine ⟨?_, hf.tl⟩
        rw [kds_one, ptsK_cons, ← ezig]
        congr 1
        show zigs k (2 * q) = zigs k m.toNat
        congr 1
        omega
      · have hne : left ≠ [] := fun e => by
          rw [e] at hah
          simp only [ne_eq, not_true_eq_false, if_false] at hah
          omega
        obtain ⟨⟨a, z, al⟩, r, rfl⟩ : ∃ p r, left = p :: r := by
          cases left with
          | nil => exact absurd rfl hne
          | cons p r => exact ⟨p, r, rfl⟩
        have hal : al = false := h.2.2.1 rfl _ _ rfl
        subst hal
        have hz : 2 ≤ z := hl.2.1 rfl
        have hodd : ¬ m % 2 = 0 := by omega
        have ea : a = k.ot := by
          have := hf.1
          rw [end_alt, if_neg hodd] at this
          exact this
        have e1 : zigs k (2 * q) = zigs k m.toNat ++ [a] := by
          obtain ⟨u, hu⟩ : ∃ u : Nat, m.toNat = 2 * u + 1 := ⟨m.toNat / 2, by omega⟩
          rw [show 2 * q = 2 * u + 2 by omega, hu, zigs_add, zigs_add, List.append_assoc]
          congr 1
          show [k, k.ot] = [k] ++ [a]
          rw [ea]
          rfl
        have e2 : List.replicate z.toNat a = a :: List.replicate (z - 1).toNat a := by
          rw [show z.toNat = (z - 1).toNat + 1 by omega, List.replicate_succ]
        by_cases hx : ∃ b m2 r2, r = (b, m2, true) :: r2 ∧ z = 2
        · obtain ⟨b, m2, r2, rfl, hz2⟩ := hx
          rw [tsB2b h4 h1 hz2 hah]
          have hm2 : 1 ≤ m2 := hl.tl.1
          have hb2 : b = a.ot := by
            have := hf.tl.1
            exact this
          refine ⟨?_, hf.tl.tl.put ?_⟩
          · rw [kds_one, ptsK_cons, ptsK_cons, ptsK_cons, ptsK_cons, ← ezig, e1]
            show zigs k m.toNat ++ [a] ++ (zigs a (z - 1 + m2).toNat ++ ptsK r2) = zigs k m.toNat ++ (List.replicate z.toNat a ++ (zigs b m2.toNat ++ ptsK r2))
            rw [e2, hz2, show ((2 : Int) - 1 + m2).toNat = m2.toNat + 1 by omega, hb2, List.append_assoc]
            rfl
          · rw [end_alt, end_alt, hz2, hb2]
            by_cases h2 : m2 % 2 = 0
            · rw [if_pos h2, if_neg (by omega), Kd.ot_ot]
            · rw [if_neg h2, if_pos (by omega)]
        · rw [tsB2a h4 h1 (fun b m2 r2 e zz => hx ⟨b, m2, r2, e, zz⟩) hah]
          refine ⟨?_, hf.tl.put ?_⟩
          · rw [kds_one, ptsK_cons, ptsK_cons, ptsK_cons, ← ezig, e1]
            show zigs k m.toNat ++ [a] ++ (ptK (a, z - 1 + 0, decide (z = 2)) ++ ptsK r) = zigs k m.toNat ++ (List.replicate z.toNat a ++ ptsK r)
            have e3 : ptK (a, z - 1 + 0, decide (z = 2)) = List.replicate (z - 1).toNat a := by
              unfold ptK
              rw [Int.add_zero]
              by_cases h2 : z = 2
              · subst h2
                rfl
              · rw [if_neg (by simp [h2])]
            rw [e2, e3, List.append_assoc]
            rfl
          · show (if decide (z = 2) && decide ((z - 1 + 0) % 2 = 0) then a.ot else a) = (if false && decide (z % 2 = 0) then a.ot else a)
            have y : ¬ (decide (z = 2) && decide ((z - 1 + 0) % 2 = 0)) = true := fun y => by
              rw [Bool.and_eq_true, decide_eq_true_eq, decide_eq_true_eq] at y
              omega
            rw [if_neg y, Bool.false_and]
            rfl
theorem kdsOf_cat (a b : List (Wd × Int)) : kdsOf (a ++ b) = kdsOf a ++ kdsOf b := List.flatMap_append
theorem go_marks : ∀ {n : Nat} {ps : List Part}, PI ps → Fw ps → psum ps ≤ n → kdsOf (tidyGo n ps) = ptsK ps
  | 0, [], _, _, _ => rfl
  | n + 1, [], _, _, _ => rfl
  | 0, (k, m, alt) :: r, h, _, hn => by
    have h1 := h.1
    have h2 := h.tl.nn
    have h3 : m + psum r ≤ 0 := hn
    omega
  | n + 1, (k, m, alt) :: r, h, hf, hn => by
    obtain ⟨h1, h2, h3, h4⟩ := tidyStep_ok h
    obtain ⟨e1, f1⟩ := step_marks h hf
    have h5 : m + psum r ≤ (n : Int) + 1 := hn
    show kdsOf ((tidyStep k m alt r).1 ++ tidyGo n (tidyStep k m alt r).2) = _
    rw [kdsOf_cat, go_marks (n := n) h1 f1 (by omega), e1]
/-! ### parts by single marks, the last part ahead -/
/-- the same, the last part ahead -/
def Bw : List Part → Prop
  | [] => True
  | [_] => True
  | p :: q :: r => p.1 = (endK q).ot ∧ Bw (q :: r)
theorem Bw.tl {p : Part} {r : List Part} (h : Bw (p :: r)) : Bw r := by
  cases r with
  | nil => trivial
  | cons q r => exact h.2
theorem Bw.put {p p' : Part} {r : List Part} (h : Bw (p :: r)) (e : p'.1 = p.1) : Bw (p' :: r) := by
  cases r with
  | nil => trivial
  | cons q r => exact ⟨e.trans h.1, h.2⟩
theorem Bw.on {p : Part} {r : List Part} (h : Bw r) (e : lastKind r ≠ some p.1) : Bw (p :: r) := by
  cases r with
  | nil => trivial
  | cons q r =>
    obtain ⟨f, b, al⟩ := q
    exact ⟨Kd.ne_ot fun z => e (by show some (endK (f, b, al)) = _; rw [z]), h⟩
theorem fw_snoc : ∀ {ps : List Part} {p : Part}, Fw ps → (∀ q, ps.getLast? = some q → p.1 = (endK q).ot) → Fw (ps ++ [p])
  | [], p, _, _ => trivial
  | [q], p, _, h => ⟨h q rfl, trivial⟩
  | q :: q2 :: r, p, hf, h => ⟨hf.1, fw_snoc (ps := q2 :: r) hf.2 fun x hx => h x (by rw [List.getLast?_cons_cons]; exact hx)⟩
theorem Bw.rev : ∀ {ps : List Part}, Bw ps → Fw ps.reverse
  | [], _ => trivial
  | p :: r, h => by
    rw [List.reverse_cons]
    refine fw_snoc h.tl.rev fun q hq => ?_
    rw [List.getLast?_reverse] at hq
    cases r with
    | nil => cases hq
    | cons q2 r =>
      cases hq
      exact h.1
theorem ptsK_app (a b : List Part) : ptsK (a ++ b) = ptsK a ++ ptsK b := List.flatMap_append
/-- one mark more -/
theorem put1_marks {k : Kd} {ps : List Part} (hp : PI ps) (hb : Bw ps) : PI (put1 ps k) ∧ Bw (put1 ps k) ∧ ptsK (put1 ps k).reverse = ptsK ps.reverse ++ [k] := by
  have hpi := (putSame_ok (k := k) (m := 1) hp (by decide)).1
  refine ⟨hpi, ?_⟩
  by_cases h : lastKind ps = some k
  · cases ps with
    | nil => cases h
    | cons p r =>
      obtain ⟨f, b, alt⟩ := p
      have hb1 : 1 ≤ b := hp.1
      rw [put1_eq h]
      cases alt with
      | false =>
        have e : f = k := Option.some.inj h
        subst e
        simp only [Bool.false_eq_true, if_false, false_and]
        refine ⟨hb.put rfl, ?_⟩
        rw [List.reverse_cons, List.reverse_cons, ptsK_app, ptsK_app, List.append_assoc]
        congr 1
        show List.replicate (1 + b).toNat f ++ [] = (List.replicate b.toNat f ++ []) ++ [f]
        rw [show (1 + b).toNat = b.toNat + 1 by omega, List.replicate_succ', List.append_nil, List.append_nil]
      | true =>
        have e : endK (f, b, true) = k := Option.some.inj h
        rw [end_alt] at e
        simp only [if_true, true_and]
        by_cases h1 : 1 < b
        · rw [if_pos h1]
          obtain ⟨n, hn⟩ : ∃ n : Nat, b.toNat = n + 1 := ⟨b.toNat - 1, by omega⟩
          refine ⟨⟨?_, hb.put rfl⟩, ?_⟩
          · show k = (endK (f, b - 1, true)).ot
            rw [end_alt, ← e]
            by_cases h2 : b % 2 = 0
            · rw [if_pos h2, if_neg (by omega)]
            · rw [if_neg h2, if_pos (by omega), Kd.ot_ot]
          · rw [List.reverse_cons, List.reverse_cons, List.reverse_cons, ptsK_app, ptsK_app, ptsK_app, List.append_assoc, List.append_assoc]
            congr 1
            show (zigs f (b - 1).toNat ++ []) ++ ([k, k] ++ []) = (zigs f b.toNat ++ []) ++ [k]
            have e4 : zigs f b.toNat = zigs f (b - 1).toNat ++ [k] := by
              by_cases h2 : b % 2 = 0
              · rw [if_pos h2] at e
                obtain ⟨u, hu⟩ : ∃ u : Nat, (b - 1).toNat = 2 * u + 1 := ⟨(b - 1).toNat / 2, by omega⟩
                rw [hu, show b.toNat = 2 * u + 2 by omega, zigs_add, zigs_add, List.append_assoc, ← e]
                rfl
              · rw [if_neg h2] at e
                obtain ⟨u, hu⟩ : ∃ u : Nat, (b - 1).toNat = 2 * u := ⟨(b - 1).toNat / 2, by omega⟩
                rw [hu, show b.toNat = 2 * u + 1 by omega, zigs_add, ← e]
                rfl
            rw [e4]
            simp
        · have h1 : b = 1 := by omega
          subst h1
          rw [if_neg (by decide)]
          have e : f = k := by rw [if_neg (by decide)] at e; exact e
          subst e
          refine ⟨hb.put rfl, ?_⟩
          rw [List.reverse_cons, List.reverse_cons, ptsK_app, ptsK_app, List.append_assoc]
          rfl
  · rw [put1_ne h]
    cases ps with
    | nil => exact ⟨trivial, rfl⟩
    | cons p r =>
      obtain ⟨f, b, alt⟩ := p
      have hb1 : 1 ≤ b := hp.1
      cases alt with
      | false =>
        refine ⟨hb.on h, ?_⟩
        show ptsK ((k, 1, true) :: (f, b, false) :: r).reverse = _
        rw [List.reverse_cons, ptsK_app]
        rfl
      | true =>
        have e : putAlt k 1 ((f, b, true) :: r) = (f, b + 1, true) :: r := by
          show (if (0 : Int) < 1 then (f, b + 1, true) :: r else (f, b, true) :: r) = _
          rw [if_pos (by decide)]
        rw [e]
        have h2 : endK (f, b, true) ≠ k := fun z => h (congrArg some z)
        rw [end_alt] at h2
        refine ⟨hb.put rfl, ?_⟩
        rw [List.reverse_cons, List.reverse_cons, ptsK_app, ptsK_app, List.append_assoc]
        congr 1
        show zigs f (b + 1).toNat ++ [] = (zigs f b.toNat ++ []) ++ [k]
        rw [List.append_nil, List.append_nil]
        by_cases h3 : b % 2 = 0
        · rw [if_pos h3] at h2
          have ek : k = f := by have := Kd.ne_ot (Ne.symm h2); rw [Kd.ot_ot] at this; exact this
          obtain ⟨u, hu⟩ : ∃ u : Nat, b.toNat = 2 * u := ⟨b.toNat / 2, by omega⟩
          rw [hu, show (b + 1).toNat = 2 * u + 1 by omega, zigs_add, ek]
          rfl
        · rw [if_neg h3] at h2
          have ek : k = f.ot := Kd.ne_ot (Ne.symm h2)
          obtain ⟨u, hu⟩ : ∃ u : Nat, b.toNat = 2 * u + 1 := ⟨b.toNat / 2, by omega⟩
          rw [hu, show (b + 1).toNat = 2 * u + 2 by omega, zigs_add, zigs_add, List.append_assoc, ek]
          rfl
theorem ones_marks : ∀ (ks : List Kd) {ps : List Part}, PI ps → Bw ps → PI (ones ps ks) ∧ Bw (ones ps ks) ∧ ptsK (ones ps ks).reverse = ptsK ps.reverse ++ ks
  | [], ps, hp, hb => ⟨hp, hb, by rw [List.append_nil]; rfl⟩
  | k :: ks, ps, hp, hb => by
    obtain ⟨h1, h2, h3⟩ := put1_marks (k := k) hp hb
    obtain ⟨h4, h5, h6⟩ := ones_marks ks h1 h2
    refine ⟨h4, h5, ?_⟩
    show ptsK (ones (put1 ps k) ks).reverse = _
    rw [h6, h3, List.append_assoc]
    rfl
/-- tidy kinds have the marks -/
theorem parts_marks (ks : List Kd) : kdsOf (tidyParts (ones [] ks)) = ks ∧ ∀ x ∈ tidyParts (ones [] ks), 1 ≤ x.2 := by
  obtain ⟨h1, h2, h3⟩ := ones_marks ks (ps := []) trivial trivial
  refine ⟨?_, (tidyParts_ok h1).2⟩
  unfold tidyParts
  rw [go_marks h1.rev h2.rev (by rw [psum_rev]; have := h1.msum; omega), h3]
  rfl
end Sq
end
section
set_option Elab.async false
set_option linter.all false
set_option maxRecDepth 100000
set_option maxHeartbeats 4000000
/-! Marks of tidy runs. -/
namespace Sq
open PySem PyProof.Rows
/-- each run begins at the end of the one ahead, or later -/
def Spaced (r : Rl) : Option Int → List Run → Prop
  | _, [] => True
  | last, x :: xs => (∀ e, last = some e → e ≤ x.1) ∧ Spaced r (some (runEnd r x)) xs
/-- marks of groups -/
def marksG (r : Rl) (gs : List (Int × List Kd)) : List Run := gs.reverse.flatMap fun g => lay1 r g.1 g.2
theorem marksG_cons (r : Rl) (g : Int × List Kd) (gs : List (Int × List Kd)) : marksG r (g :: gs) = marksG r gs ++ lay1 r g.1 g.2 := by
  unfold marksG
  rw [List.reverse_cons, List.flatMap_append]
  show _ ++ (lay1 r g.1 g.2 ++ []) = _
  rw [List.append_nil]
/-- where the groups end -/
def gEnd (r : Rl) : List (Int × List Kd) → Option Int
  | [] => none
  | (b, ks) :: _ => some (b + persum r ks)
theorem persum_app (r : Rl) (a b : List Kd) : persum r (a ++ b) = persum r a + persum r b := by
  unfold persum
  rw [List.map_append, List.sum_append]
theorem go_single {r : Rl} : ∀ {xs : List Run} {last : Option Int} {gs : List Grp}, (∀ x ∈ xs, ∃ a k, x = (a, .one k, 1)) → Spaced r last xs → gEnd r (phi gs) = last → marksG r (phi (groupsGo r xs last gs)) = marksG r (phi gs) ++ xs
  | [], last, gs, _, _, _ => by
    show marksG r (phi gs) = _
    rw [List.append_nil]
  | x :: xs, last, gs, hx, hs, hg => by
    obtain ⟨a, k, rfl⟩ := hx x (List.mem_cons_self ..)
    obtain ⟨h1, h2⟩ := hs
    rw [groupsGo_cons]
    have hx2 : ∀ y ∈ xs, ∃ a k, y = (a, .one k, 1) := fun y hy => hx y (List.mem_cons_of_mem _ hy)
    have key : ∀ gs1 : List Grp, gEnd r (phi gs1) = some (a + r.per k) → marksG r (phi gs1) = marksG r (phi gs) ++ [(a, .one k, 1)] → marksG r (phi (groupsGo r xs (some (runEnd r (a, .one k, 1))) gs1)) = marksG r (phi gs) ++ (a, .one k, 1) :: xs := fun gs1 e1 e2 => by
      rw [go_single hx2 h2 (by rw [runEnd1]; exact e1), e2, List.append_assoc]
      rfl
    refine key _ ?_ ?_
    all_goals unfold grpStep openG
    · cases last with
      | none => show some (a + (r.per k + 0)) = _; rw [Int.add_zero]
      | some e =>
        show gEnd r (phi (addG _ (if e < a then _ else _))) = _
        split
        · show some (a + (r.per k + 0)) = _; rw [Int.add_zero]
        · cases gs with
          | nil => cases hg
          | cons g gs =>
            obtain ⟨b, l⟩ := g
            have he : b + persum r (kdsOf l) = e := Option.some.inj hg
            have := h1 e rfl
            show some (b + persum r (kdsOf (l ++ [(.one k, 1)]))) = some (a + r.per k)
            rw [kdsOf_app, persum_app]
            show some (b + (persum r (kdsOf l) + (r.per k + 0))) = _
            congr 1
            omega
    · cases last with
      | none =>
        show marksG r ((a, [k]) :: phi gs) = _
        rw [marksG_cons]
        rfl
      | some e =>
        show marksG r (phi (addG _ (if e < a then _ else _))) = _
        split
        · show marksG r ((a, [k]) :: phi gs) = _
          rw [marksG_cons]
          rfl
        · cases gs with
          | nil => cases hg
          | cons g gs =>
            obtain ⟨b, l⟩ := g
            have he : b + persum r (kdsOf l) = e := Option.some.inj hg
            have := h1 e rfl
            show marksG r ((b, kdsOf (l ++ [(.one k, 1)])) :: phi gs) = marksG r ((b, kdsOf l) :: phi gs) ++ _
            rw [marksG_cons, marksG_cons, kdsOf_app, List.append_assoc]
            congr 1
            show lay1 r b (kdsOf l ++ [k]) = _
            rw [lay1_app, show b + persum r (kdsOf l) = a by omega]
            rfl
theorem lay1_one (r : Rl) : ∀ (a : Int) (ks : List Kd), ∀ x ∈ lay1 r a ks, ∃ b k, x = (b, .one k, 1)
  | _, [], x, h => by cases h
  | a, k :: ks, x, h => by
    rcases List.mem_cons.mp h with rfl | h
    · exact ⟨a, k, rfl⟩
    · exact lay1_one r _ ks x h
theorem sing_one (r : Rl) (xs : List Run) : ∀ x ∈ sing r xs, ∃ b k, x = (b, .one k, 1) := fun x h => by
  obtain ⟨y, _, h2⟩ := List.mem_flatMap.mp h
  exact lay1_one r _ _ x h2
theorem spaced_lay1 (r : Rl) {ys : List Run} : ∀ (ks : List Kd) (a : Int) {last : Option Int}, (∀ e, last = some e → e ≤ a) → ks ≠ [] → Spaced r (some (a + persum r ks)) ys → Spaced r last (lay1 r a ks ++ ys)
  | [], _, _, _, h, _ => absurd rfl h
  | [k], a, last, h1, _, h2 => by
    refine ⟨h1, ?_⟩
    rw [runEnd1]
    have e : a + persum r [k] = a + r.per k := by show a + (r.per k + 0) = _; omega
    rw [e] at h2
    exact h2
  | k :: k2 :: ks, a, last, h1, _, h2 => by
    refine ⟨h1, ?_⟩
    rw [runEnd1]
    refine spaced_lay1 r (k2 :: ks) (a + r.per k) (fun e z => by cases z; exact Int.le_refl _) (by simp) ?_
    rw [persum_cons, ← Int.add_assoc] at h2
    exact h2
theorem wks_ne {w : Wd} {n : Nat} (h : 1 ≤ n) : wks w n ≠ [] := by
  obtain ⟨m, rfl⟩ : ∃ m, n = m + 1 := ⟨n - 1, by omega⟩
  cases w with
  | one k => exact List.cons_ne_nil _ _
  | two k => show zigs k (2 * (m + 1)) ≠ []; rw [zigs_two]; exact List.cons_ne_nil _ _
theorem spaced_sing (r : Rl) : ∀ {xs : List Run} {last : Option Int}, (∀ x ∈ xs, 1 ≤ x.2.2) → Spaced r last xs → Spaced r last (sing r xs)
  | [], _, _, h => h
  | (b, w, t) :: xs, last, ht, h => by
    have h1 : 1 ≤ t := ht (b, w, t) (List.mem_cons_self ..)
    obtain ⟨n, rfl⟩ := Int.eq_ofNat_of_zero_le (show 0 ≤ t by omega)
    show Spaced r last (lay1 r b (wks w n) ++ sing r xs)
    refine spaced_lay1 r _ _ h.1 (wks_ne (by omega)) ?_
    rw [persum_wks]
    exact spaced_sing r (fun x hx => ht x (List.mem_cons_of_mem _ hx)) h.2
theorem sing_lay (r : Rl) : ∀ (a : Int) (ks : List (Wd × Int)), (∀ x ∈ ks, 1 ≤ x.2) → sing r (layGo r a ks) = lay1 r a (kdsOf ks)
  | _, [], _ => rfl
  | a, (w, t) :: ks, h => by
    have h1 : 1 ≤ t := h (w, t) (List.mem_cons_self ..)
    obtain ⟨n, rfl⟩ := Int.eq_ofNat_of_zero_le (show 0 ≤ t by omega)
    show lay1 r a (wks w n) ++ sing r (layGo r (a + (n : Int) * w.per r) ks) = lay1 r a (wks w n ++ kdsOf ks)
    rw [sing_lay r _ ks (fun x hx => h x (List.mem_cons_of_mem _ hx)), lay1_app, persum_wks]
theorem sing_flat (r : Rl) {α : Type} (f : α → List Run) : ∀ l : List α, sing r (l.flatMap f) = l.flatMap (fun a => sing r (f a)) := by
  intro l
  induction l with
  | nil => rfl
  | cons a l ih => rw [List.flatMap_cons, sing_app, ih, List.flatMap_cons]
/-- the tidy form has the same marks -/
theorem sing_tidy {r : Rl} {xs : List Run} (h : ∀ x ∈ xs, 1 ≤ x.2.2) (hs : Spaced r none xs) : sing r (tidyRuns r xs) = sing r xs := by
  rw [tidy_sing h]
  unfold layP
  rw [sing_flat]
  have e : ∀ g : Int × List Kd, sing r (layGo r g.1 (tidyParts (ones [] g.2))) = lay1 r g.1 g.2 := fun g => by
    obtain ⟨h1, h2⟩ := parts_marks g.2
    rw [sing_lay r _ _ h2, h1]
  have e2 : ∀ l : List (Int × List Kd), (l.flatMap fun g => sing r (layGo r g.1 (tidyParts (ones [] g.2)))) = l.flatMap fun g => lay1 r g.1 g.2 := fun l => flatMap_eq fun g _ => e g
  rw [e2]
  have := go_single (gs := []) (sing_one r xs) (spaced_sing r h hs) rfl
  exact this
end Sq
end
section
set_option Elab.async false
set_option linter.all false
set_option maxRecDepth 100000
set_option maxHeartbeats 4000000
set_option exponentiation.threshold 500
/-! A live keyer and its events: waits change nothing but how the marks are written. -/
namespace Sq
open PySem PyProof.Rows
/-- nothing is due up to t -/
def Stable (t : Int) (s : MSt) : Prop := ∀ k, s.kind = some k → t < s.beg + s.rules.per k ∧ ((s.rules.canHear k && !s.heard) = true → t < s.beg + s.rules.d)
theorem Stable.slow {t : Int} {s : MSt} (h : Stable t s) : Slow t s s := by
  cases hk : s.kind with
  | none => exact .idle hk
  | some k =>
    obtain ⟨h1, h2⟩ := h k hk
    have e : hearTo t s k = s := by
      unfold hearTo
      by_cases c : (s.rules.canHear k && !s.heard) = true
      · rw [c, decide_eq_true (h2 c)]
        rfl
      · split
        · rfl
        · unfold heardSt
          rw [if_neg c]
    have := Slow.stop (t := t) hk h1
    rw [e] at this
    exact this
theorem Slow.stable {t : Int} {s a : MSt} (h : Slow t s a) : Stable t a := by
  induction h with
  | idle h =>
    intro k hk
    rw [h] at hk
    cases hk
  | @stop s k h l =>
    intro k' hk
    have f := hearTo_f t s k
    have hk2 := hk
    rw [f.k, h] at hk2
    cases hk2
    rw [f.b, f.rl]
    refine ⟨l, fun c => ?_⟩
    unfold hearTo at c
    by_cases z : (s.rules.canHear k && !s.heard && decide (t < s.beg + s.rules.d)) = true
    · rw [Bool.and_eq_true] at z
      exact of_decide_eq_true z.2
    · rw [if_neg z] at c
      exfalso
      unfold heardSt at c
      split at c
      · have : (s.hear (s.beg + s.rules.d) k).heard = true := by
          unfold MSt.hear
          simp only
          split <;> rfl
        rw [this] at c
        simp at c
      · rename_i h2
        exact h2 c
  | go h l n ih => exact ih
theorem start_stable {s : MSt} (ok : s.rules.Ok) (t : Int) (k : Kd) : Stable t (s.start t k) := fun k' hk => by
  have f := start_f s t k
  have fr := start_fresh s t k
  rw [f.k] at hk
  cases hk
  have hp := Wd.per_ge ok k
  have d0 := ok.d0
  rw [f.b, f.rl]
  refine ⟨by omega, fun c => ?_⟩
  rw [Bool.and_eq_true] at c
  have hh := fr.he
  rw [f.rl] at hh
  rw [hh, c.1] at c
  by_cases hd : s.rules.d = 0
  · rw [decide_eq_true hd] at c
    simp at c
  · omega
theorem hapEnd_stable {s : MSt} (ok : s.rules.Ok) {t : Int} (k : Kd) (h : Stable t s) : Stable t (hapEnd s t k) := by
  unfold hapEnd
  split
  · exact start_stable ok t k
  · split
    · exact h
    · split
      · exact h
      · exact h
theorem happen_stable {s : MSt} (ok : s.rules.Ok) {t : Int} (k : Kd) (dn : Bool) (h : Stable t s) : Stable t (s.happen t k dn) := by
  cases dn with
  | false => rw [happen_false]; exact h
  | true => rw [happen_true]; exact hapEnd_stable (s := { s.note t (.press k) with down := pressDown k s.down }) ok k h
theorem nf_stable {t : Int} {s : MSt} (h : Stable t s) : Stable t (nf s) := h
theorem stable_nf {t : Int} {s : MSt} (h : Stable t (nf s)) : Stable t s := h
/-- a moment that is behind events, up to a tick -/
structure Beh1 (s : MSt) (t : Int) (x : MSt) : Prop where
  slow : Slow t (nf s) (nf x)
theorem Beh1.wait {s x : MSt} {t u : Int} {n : Nat} (b : Beh1 s t x) (tu : t ≤ u) (ok : x.rules.Ok) (hl : x.logged = false) (a : AdvOk n u x) : Beh1 s u (advGo n u x) :=
  ⟨b.slow.later tu (adv_slow ok hl a)⟩
/-- an event: both ways give the same -/
theorem Beh1.event {s x : MSt} {t u : Int} {n m : Nat} (b : Beh1 s t x) (tu : t ≤ u) (ok : x.rules.Ok) (hl : x.logged = false) (a : AdvOk n u x) (oks : s.rules.Ok) (hls : s.logged = false) (as : AdvOk m u s) (k : Kd) (d : Bool) :
    nf ((advGo n u x).happen u k d) = nf ((advGo m u s).happen u k d) := by
  have h1 := (b.wait tu ok hl a).slow
  have h2 := adv_slow oks hls as
  rw [nf_happen, nf_happen, h1.det h2]
theorem beh_self {s x : MSt} {t : Int} (e : nf x = nf s) (h : Stable t s) : Beh1 s t x := ⟨by rw [e]; exact (nf_stable h).slow⟩
/-! ### all up to rest -/
theorem fin_rest {n : Nat} {s s' : MSt} (h : FinR n s s') : s.rules.Ok → s.logged = false → Rest1 (nf s) (nf s') := by
  induction h with
  | done h => exact fun _ _ => .idle h
  | @go n m st st' k hk a _ ih =>
    intro ok hl
    have k1 : Kept st (advGo m (st.beg + st.rules.per k) st) := (adv_f ok).kp
    exact (adv_slow ok hl a).rest (ih (by rw [k1.rl]; exact ok) (k1.lg.trans hl))
end Sq
end
section
set_option Elab.async false
set_option linter.all false
set_option maxRecDepth 100000
set_option maxHeartbeats 4000000
set_option exponentiation.threshold 500
/-! The marks of a machine: one by one, each at the end of the one ahead or later. -/
namespace Sq
open PySem PyProof.Rows
theorem spaced_snoc (r : Rl) {y : Run} : ∀ {xs : List Run} {last : Option Int}, Spaced r last xs → (∀ e, (match xs.getLast? with | none => last | some x => some (runEnd r x)) = some e → e ≤ y.1) → Spaced r last (xs ++ [y])
  | [], last, _, h => ⟨h, trivial⟩
  | [x], last, hs, h => ⟨hs.1, fun e z => h e z, trivial⟩
  | x :: x2 :: xs, last, hs, h => ⟨hs.1, spaced_snoc r (xs := x2 :: xs) hs.2 fun e z => h e (by rw [List.getLast?_cons_cons]; exact (by
      cases hh : (x2 :: xs).getLast? with
      | none => simp at hh
      | some w => rw [hh] at z; exact z))⟩
structure MkOk (t : Int) (s : MSt) : Prop where
  one : ∀ x ∈ s.runs, ∃ a k, x = (a, .one k, 1)
  sp : Spaced s.rules none s.runs
  act : ∀ k, s.kind = some k → (∃ xs, s.runs = xs ++ [(s.beg, .one k, 1)]) ∧ s.beg ≤ t
  idle : s.kind = none → s.down = [] ∧ ∀ x, s.runs.getLast? = some x → runEnd s.rules x ≤ t
  le : ∀ x ∈ s.runs, x.1 ≤ t
theorem MkOk.mono {t u : Int} {s : MSt} (h : MkOk t s) (l : t ≤ u) : MkOk u s :=
  ⟨h.one, h.sp, fun k hk => ⟨(h.act k hk).1, by have := (h.act k hk).2; omega⟩, fun hk => ⟨(h.idle hk).1, fun x hx => by have := (h.idle hk).2 x hx; omega⟩, fun x hx => by have := h.le x hx; omega⟩
theorem MkOk.hear {t : Int} {s : MSt} {k : Kd} (h : MkOk t s) : MkOk t (heardSt s k) := by
  have f := heardSt_f s k
  refine ⟨by rw [f.r]; exact h.one, by rw [f.r, f.rl]; exact h.sp, fun j hj => ?_, fun hj => ?_, by rw [f.r]; exact h.le⟩
  · rw [f.k] at hj
    rw [f.r, f.b]
    exact h.act j hj
  · rw [f.k] at hj
    rw [f.d, f.r, f.rl]
    exact h.idle hj
theorem MkOk.hearTo {t u : Int} {s : MSt} {k : Kd} (h : MkOk t s) : MkOk t (hearTo u s k) := by
  unfold Sq.hearTo
  split
  · exact h
  · exact h.hear
theorem out_none {r : Rl} {k : Kd} {d : List Kd} {o w : Bool} (h : outcome r k d o w = none) : d = [] := by
  unfold outcome at h
  cases o with
  | true => cases h
  | false =>
    match d, h with
    | [], _ => rfl
    | [x], h => cases h
    | x :: y :: r, h => cases h
/-- one decision -/
theorem MkOk.dec {t u : Int} {s : MSt} {k : Kd} (ok : s.rules.Ok) (h : MkOk t s) (hk : s.kind = some k) (l : s.beg + s.rules.per k ≤ u) (tu : t ≤ u) : MkOk u (s.dec1 k) ∧ ∃ ys, (s.dec1 k).runs = s.runs ++ ys ∧ (∀ x ∈ ys, x.1 = s.beg + s.rules.per k) ∧ (s.dec1 k).rules = s.rules ∧ ∀ k', (s.dec1 k).kind = some k' → (s.dec1 k).beg = s.beg + s.rules.per k := by
  have f := heardSt_f s k
  have h1 := (h.mono tu).hear (k := k)
  obtain ⟨⟨xs, hx⟩, hb⟩ := h.act k hk
  have elast : s.runs.getLast? = some (s.beg, .one k, 1) := by rw [hx]; simp
  unfold MSt.dec1 MSt.decide
  cases ho : outcome (heardSt s k).rules k (heardSt s k).down (heardSt s k).other (heardSt s k).own with
  | none =>
    refine ⟨⟨h1.one, h1.sp, fun j hj => (by cases hj), fun _ => ⟨out_none ho, fun x hx => ?_⟩, h1.le⟩, [], ?_, fun _ z => (by cases z), f.rl, fun _ z => (by cases z)⟩
    · have hx2 : (heardSt s k).runs.getLast? = some x := hx
      rw [f.r, elast] at hx2
      cases hx2
      show runEnd (heardSt s k).rules _ ≤ u
      rw [f.rl, runEnd1]
      exact l
    · show (heardSt s k).runs = _
      rw [f.r, List.append_nil]
  | some k' =>
    have g := start_f (heardSt s k) (s.beg + s.rules.per k) k'
    have gr := start_runs (heardSt s k) (s.beg + s.rules.per k) k'
    rw [f.r] at gr
    refine ⟨⟨?_, ?_, fun j hj => ?_, fun hj => ?_, ?_⟩, [(s.beg + s.rules.per k, .one k', 1)], gr, fun x hx => by rw [List.mem_singleton.mp hx], g.rl.trans f.rl, fun _ _ => g.b⟩
    · show ∀ x ∈ ((heardSt s k).start _ k').runs, _
      rw [gr]
      intro x hx
      rcases List.mem_append.mp hx with hx | hx
      · exact h.one x hx
      · exact ⟨_, _, List.mem_singleton.mp hx⟩
    · show Spaced ((heardSt s k).start _ k').rules none ((heardSt s k).start _ k').runs
      rw [gr, g.rl, f.rl]
      refine spaced_snoc _ h.sp fun e z => ?_
      rw [elast] at z
      simp only [Option.some.injEq] at z
      rw [← z, runEnd1]
      exact Int.le_refl _
    · have hj2 : ((heardSt s k).start (s.beg + s.rules.per k) k').kind = some j := hj
      rw [g.k] at hj2
      cases hj2
      exact ⟨⟨s.runs, by show ((heardSt s k).start _ k').runs = _ ++ [(((heardSt s k).start _ k').beg, _, _)]; rw [gr, g.b]⟩, by show ((heardSt s k).start _ k').beg ≤ u; rw [g.b]; exact l⟩
    · have hj2 : ((heardSt s k).start (s.beg + s.rules.per k) k').kind = none := hj
      rw [g.k] at hj2
      cases hj2
    · show ∀ x ∈ ((heardSt s k).start _ k').runs, _
      rw [gr]
      intro x hx
      rcases List.mem_append.mp hx with hx | hx
      · have := h.le x hx
        omega
      · rw [List.mem_singleton.mp hx]
        exact l
theorem MkOk.slow {u : Int} {s a : MSt} (g : Slow u s a) : ∀ {t : Int}, s.rules.Ok → MkOk t s → t ≤ u → MkOk u a ∧ a.rules = s.rules ∧ ∃ ys, a.runs = s.runs ++ ys := by
  induction g with
  | idle h => exact fun ok m l => ⟨m.mono l, rfl, [], (List.append_nil _).symm⟩
  | stop h _ => exact fun ok m l => ⟨(m.mono l).hearTo, (hearTo_f _ _ _).rl, [], by rw [(hearTo_f _ _ _).r, List.append_nil]⟩
  | go h l n ih =>
    intro t ok m tu
    obtain ⟨m1, ys, e1, _, e3, _⟩ := m.dec ok h l tu
    obtain ⟨m2, e4, zs, e5⟩ := ih (by rw [e3]; exact ok) m1 (Int.le_refl _)
    exact ⟨m2, e4.trans e3, ys ++ zs, by rw [e5, e1, List.append_assoc]⟩
/-- marks up to rest: all later ones begin at the next decision, or later -/
theorem MkOk.rest {s a : MSt} (g : Rest1 s a) : ∀ {t : Int}, s.rules.Ok → MkOk t s → (∃ u, MkOk u a) ∧ a.rules = s.rules ∧ a.kind = none ∧ ∃ ys, a.runs = s.runs ++ ys ∧ (s.kind = none → ys = []) ∧ ∀ k, s.kind = some k → ∀ x ∈ ys, s.beg + s.rules.per k ≤ x.1 := by
  induction g with
  | idle h => exact fun ok m => ⟨⟨_, m⟩, rfl, h, [], (List.append_nil _).symm, fun _ => rfl, fun k hk => by rw [h] at hk; cases hk⟩
  | @go s s' k h n ih =>
    intro t ok m
    have hu : ∃ u : Int, t ≤ u ∧ s.beg + s.rules.per k ≤ u := by
      rcases Int.le_total t (s.beg + s.rules.per k) with z | z
      · exact ⟨_, z, Int.le_refl _⟩
      · exact ⟨t, Int.le_refl _, z⟩
    obtain ⟨u, tu, l⟩ := hu
    obtain ⟨m1, ys, e1, e2, e3, e6⟩ := m.dec ok h l tu
    obtain ⟨m2, e4, ei, zs, e5, e7, e8⟩ := ih (by rw [e3]; exact ok) m1
    refine ⟨m2, e4.trans e3, ei, ys ++ zs, by rw [e5, e1, List.append_assoc], fun z => (by rw [h] at z; cases z), fun j hj x hx => ?_⟩
    rw [h] at hj
    cases hj
    rcases List.mem_append.mp hx with hx | hx
    · rw [e2 x hx]
      exact Int.le_refl _
    · cases hkd : (s.dec1 k).kind with
      | none => rw [e7 hkd] at hx; cases hx
      | some k' =>
        have := e8 k' hkd x hx
        rw [e6 k' hkd, e3] at this
        have := Wd.per_ge ok k'
        omega
end Sq
end
section
set_option Elab.async false
set_option linter.all false
set_option maxRecDepth 100000
set_option maxHeartbeats 4000000
set_option exponentiation.threshold 500
/-! Records closed at a tick; what a live keyer would send. -/
namespace Sq
open PySem PyProof.Rows
theorem MkOk.start {t : Int} {s : MSt} {k : Kd} (h : MkOk t s) (hk : s.kind = none) : MkOk t (s.start t k) := by
  have g := start_f s t k
  have gr := start_runs s t k
  refine ⟨?_, ?_, fun j hj => ?_, fun hj => ?_, ?_⟩
  · rw [gr]
    intro x hx
    rcases List.mem_append.mp hx with hx | hx
    · exact h.one x hx
    · exact ⟨_, _, List.mem_singleton.mp hx⟩
  · rw [gr, g.rl]
    refine spaced_snoc _ h.sp fun e z => ?_
    cases hl : s.runs.getLast? with
    | none => rw [hl] at z; cases z
    | some w =>
      rw [hl] at z
      cases z
      exact (h.idle hk).2 w hl
  · rw [g.k] at hj
    cases hj
    exact ⟨⟨s.runs, by rw [gr, g.b]⟩, by rw [g.b]; exact Int.le_refl _⟩
  · rw [g.k] at hj
    cases hj
  · rw [gr]
    intro x hx
    rcases List.mem_append.mp hx with hx | hx
    · exact h.le x hx
    · rw [List.mem_singleton.mp hx]
      exact Int.le_refl _
theorem MkOk.happen {t : Int} {s : MSt} {k : Kd} {dn : Bool} (h : MkOk t s) : MkOk t (s.happen t k dn) := by
  cases dn with
  | false =>
    rw [happen_false]
    exact ⟨h.one, h.sp, h.act, fun hj => ⟨by show s.down.filter _ = []; rw [(h.idle hj).1]; rfl, (h.idle hj).2⟩, h.le⟩
  | true =>
    rw [happen_true]
    unfold hapEnd
    split
    · rename_i hk
      have h2 : MkOk t { s.note t (.press k) with down := ([] : List Kd) } := ⟨h.one, h.sp, h.act, fun hj => ⟨rfl, (h.idle hj).2⟩, h.le⟩
      have h3 := h2.start (k := k) hk
      have g := start_f { s.note t (.press k) with down := pressDown k s.down } t k
      have gr := start_runs { s.note t (.press k) with down := pressDown k s.down } t k
      have g3 := start_f { s.note t (.press k) with down := ([] : List Kd) } t k
      have gr3 := start_runs { s.note t (.press k) with down := ([] : List Kd) } t k
      refine ⟨?_, ?_, fun j hj => ?_, fun hj => ?_, ?_⟩
      · rw [gr]; have := h3.one; rw [gr3] at this; exact this
      · rw [gr, g.rl]; have := h3.sp; rw [gr3, g3.rl] at this; exact this
      · rw [g.k] at hj
        have := h3.act j (by rw [g3.k]; exact hj)
        rw [gr3, g3.b] at this
        rw [gr, g.b]
        exact this
      · rw [g.k] at hj
        cases hj
      · rw [gr]; have := h3.le; rw [gr3] at this; exact this
    · rename_i k' hk
      have h2 : ∀ s' : MSt, s'.runs = s.runs → s'.rules = s.rules → s'.kind = s.kind → s'.beg = s.beg → MkOk t s' := fun s' e1 e2 e3 e4 => by
        have hk0 : s.kind = some k' := hk
        refine ⟨by rw [e1]; exact h.one, by rw [e1, e2]; exact h.sp, fun j hj => ?_, fun hj => ?_, by rw [e1]; exact h.le⟩
        · rw [e3] at hj
          rw [e1, e4]
          exact h.act j hj
        · rw [e3, hk0] at hj
          cases hj
      split
      · exact h2 _ rfl rfl rfl rfl
      · split
        · exact h2 _ rfl rfl rfl rfl
        · exact h2 _ rfl rfl rfl rfl
/-- releases at a tick -/
def relX (t : Int) (ks : List Kd) (s : MSt) : MSt := ks.foldl (fun s k => s.happen t k false) s
theorem relX_eq (t : Int) (ks : List Kd) (s : MSt) : relX t ks s = relAll t ks s := rfl
theorem nf_relX (t : Int) : ∀ (ks : List Kd) (s : MSt), nf (relX t ks s) = relX t ks (nf s)
  | [], _ => rfl
  | k :: ks, s => by
    show nf (relX t ks (s.happen t k false)) = relX t ks ((nf s).happen t k false)
    rw [nf_relX t ks, nf_happen]
/-- two releases in either sequence -/
theorem rel_swap {s : MSt} (hl : s.logged = false) (t : Int) (j k : Kd) : (s.happen t j false).happen t k false = (s.happen t k false).happen t j false := by
  rw [happen_false, happen_false, happen_false, happen_false]
  refine MSt.eq_of rfl rfl rfl rfl rfl rfl rfl ?_ rfl ?_ ?_
  · show (s.down.filter fun o => decide (o ≠ j)).filter (fun o => decide (o ≠ k)) = (s.down.filter fun o => decide (o ≠ k)).filter (fun o => decide (o ≠ j))
    rw [List.filter_filter, List.filter_filter]
    congr 1
    funext o
    exact Bool.and_comm _ _
  · funext x
    show addC (.release k) 1 (addC (.release j) 1 s.cnt) x = addC (.release j) 1 (addC (.release k) 1 s.cnt) x
    simp only [addC]
    split <;> split <;> omega
  · simp [MSt.note, hl]
theorem relX_stable {t : Int} : ∀ (ks : List Kd) {s : MSt}, s.rules.Ok → Stable t s → Stable t (relX t ks s)
  | [], _, _, h => h
  | k :: ks, s, ok, h => relX_stable ks (s := s.happen t k false) ok (happen_stable ok k false h)
theorem relX_mk {t : Int} : ∀ (ks : List Kd) {s : MSt}, MkOk t s → MkOk t (relX t ks s)
  | [], _, h => h
  | k :: ks, s, h => relX_mk ks (s := s.happen t k false) h.happen
end Sq
end
section
set_option Elab.async false
set_option linter.all false
set_option maxRecDepth 100000
set_option maxHeartbeats 4000000
set_option exponentiation.threshold 500
/-! A live keyer behind events: would_be is what the closed record sends. -/
namespace Sq
open PySem PyProof.Rows
/-- a live moment at t, behind events -/
structure Keep (c : Nat) (r : Rl) (es : List Ev) (t : Int) (x : MSt) : Prop where
  gs : Good c ((MSt.new r false).evs es)
  gx : Good c x
  rs : ((MSt.new r false).evs es).rules = r
  rx : x.rules = r
  dn : ((MSt.new r false).evs es).down = x.down
  slow : Slow t (nf ((MSt.new r false).evs es)) (nf x)
  mo : MkOk t (nf x)
theorem Keep.stable {c : Nat} {r : Rl} {es : List Ev} {t : Int} {x : MSt} (h : Keep c r es t x) : Stable t x := stable_nf h.slow.stable
theorem keep_new {r : Rl} (ok : r.Ok) (t : Int) : Keep 0 r [] t (MSt.new r false) :=
  ⟨new_good ok, new_good ok, rfl, rfl, rfl, .idle rfl, ⟨fun x hx => (by cases hx), trivial, fun k hk => (by cases hk), fun _ => ⟨rfl, fun x hx => (by cases hx)⟩, fun x hx => (by cases hx)⟩⟩
theorem Keep.wait {c : Nat} {r : Rl} {es : List Ev} {t u : Int} {x : MSt} (h : Keep c r es t x) (tu : t ≤ u) (hu : Tk u) (hc : c ≤ 4000) : Keep (c + 1) r es u (x.adv u) := by
  obtain ⟨a, g, k⟩ := adv_good h.gx hu (by omega)
  have hs := adv_slow h.gx.ok h.gx.lg a
  obtain ⟨m, _, _⟩ := MkOk.slow hs (t := t) h.gx.ok h.mo tu
  exact ⟨h.gs.mono (by omega), g, h.rs, k.rl.trans h.rx, h.dn.trans k.d.symm, h.slow.later tu hs, m⟩
theorem evs_snoc (s : MSt) (es : List Ev) (e : Ev) : s.evs (es ++ [e]) = (s.evs es).ev e := by
  unfold MSt.evs
  rw [List.foldl_append]
  rfl
theorem Keep.event {c : Nat} {r : Rl} {es : List Ev} {t u : Int} {x : MSt} (h : Keep c r es t x) (tu : t ≤ u) (hu : Tk u) (hc : c ≤ 4000) (k : Kd) (d : Bool) (hd : d = true → k ∉ x.down) : Keep (c + 2) r (es ++ [(u, k, d)]) u ((x.adv u).happen u k d) := by
  obtain ⟨a, g, kp⟩ := adv_good h.gx hu (by omega)
  obtain ⟨a2, g2, kp2⟩ := adv_good h.gs hu (by omega)
  have h1 := h.slow.later tu (adv_slow h.gx.ok h.gx.lg a)
  have h2 := adv_slow h.gs.ok h.gs.lg a2
  have en : nf ((x.adv u).happen u k d) = nf ((((MSt.new r false).evs es).adv u).happen u k d) := by
    rw [nf_happen, nf_happen]
    exact congrArg (fun z => MSt.happen z u k d) (h1.det h2)
  have st : Stable u (nf ((x.adv u).happen u k d)) := by
    have := happen_stable (s := nf (x.adv u)) g.ok k d h1.stable
    rw [← nf_happen] at this
    exact this
  have ee : (MSt.new r false).evs (es ++ [(u, k, d)]) = (((MSt.new r false).evs es).adv u).happen u k d := evs_snoc _ _ _
  have f1 := hap_f (x.adv u) u k d
  have f2 := hap_f (((MSt.new r false).evs es).adv u) u k d
  obtain ⟨m, _, _⟩ := MkOk.slow (adv_slow h.gx.ok h.gx.lg a) (t := t) h.gx.ok h.mo tu
  refine ⟨?_, hap_good g hu fun z => by rw [kp.d]; exact hd z, ?_, f1.rl.trans (kp.rl.trans h.rx), ?_, ?_, ?_⟩
  · rw [ee]
    exact hap_good g2 hu fun z => by rw [kp2.d, h.dn]; exact hd z
  · rw [ee, f2.rl, kp2.rl, h.rs]
  · rw [ee, f2.d, f1.d, kp.d, kp2.d, h.dn]
  · rw [ee, ← en]
    exact st.slow
  · rw [nf_happen]
    exact m.happen
theorem Keep.mono {c d : Nat} {r : Rl} {es : List Ev} {t : Int} {x : MSt} (h : Keep c r es t x) (l : c ≤ d) : Keep d r es t x := ⟨h.gs.mono l, h.gx.mono l, h.rs, h.rx, h.dn, h.slow, h.mo⟩
/-- releases: the live one without the clock, the record with it -/
theorem Keep.rels {r : Rl} {t : Int} (ht : Tk t) : ∀ (ks : List Kd) {c : Nat} {es : List Ev} {x : MSt}, Keep c r es t x → c + 2 * ks.length ≤ 4000 → Keep (c + 2 * ks.length) r (es ++ ks.map fun k => (t, k, false)) t (relX t ks x)
  | [], c, es, x, h, _ => by
    rw [List.map_nil, List.append_nil]
    exact h
  | k :: ks, c, es, x, h, hc => by
    have hc2 : c + 2 * (ks.length + 1) ≤ 4000 := hc
    have h1 : Keep (c + 2) r (es ++ [(t, k, false)]) t (x.happen t k false) := by
      have hs := h.stable
      have h2 := h.event (Int.le_refl t) ht (by omega) k false (fun z => by cases z)
      obtain ⟨a, g, kp⟩ := adv_good h.gx ht (by omega)
      have e1 : nf (x.adv t) = nf x := (adv_slow h.gx.ok h.gx.lg a).det (nf_stable hs).slow
      have e2 : nf ((x.adv t).happen t k false) = nf (x.happen t k false) := by rw [nf_happen, nf_happen, e1]
      have f := hap_f x t k false
      exact ⟨h2.gs, (hap_good h.gx ht fun z => by cases z).mono (by omega), h2.rs, f.rl.trans h.rx, by rw [h2.dn, (hap_f (x.adv t) t k false).d, f.d, kp.d], by rw [← e2]; exact h2.slow, by rw [← e2]; exact h2.mo⟩
    have h2 := Keep.rels ht ks h1 (by omega)
    rw [List.append_assoc] at h2
    have e : c + 2 * (k :: ks).length = c + 2 + 2 * ks.length := by rw [List.length_cons]; omega
    rw [e]
    exact h2
theorem relX_down (t : Int) (ks : List Kd) (s : MSt) : (relX t ks s).down = s.down.filter fun o => decide (o ∉ ks) := relAll_down
/-- what a live keyer would send is what the closed record sends -/
theorem would_eq {c : Nat} {r : Rl} {es : List Ev} {t : Int} {x : MSt} (h : Keep c r es t x) (ht : Tk t) (hc : c ≤ 3000) {ks : List Kd} (hk : ∀ k ∈ x.down, k ∈ ks) (hl : ks.length ≤ 10) :
    nf (behind r (es ++ ks.map fun k => (t, k, false)) false) = nf (relX t ks x).fin := by
  have h2 := h.rels ht ks (by omega)
  have d0 : (relX t ks x).down = [] := by
    rw [relX_down]
    exact List.filter_eq_nil_iff.mpr fun o ho => by simp [hk o ho]
  obtain ⟨a1, _, _⟩ := good_fin h2.gx (by omega) d0
  obtain ⟨a2, _, _⟩ := good_fin h2.gs (by omega) (h2.dn.trans d0)
  have r1 := fin_rest a1 h2.gx.ok h2.gx.lg
  have r2 := fin_rest a2 h2.gs.ok h2.gs.lg
  exact r2.det (h2.slow.rest r1)
end Sq
end
section
set_option Elab.async false
set_option linter.all false
set_option maxRecDepth 100000
set_option maxHeartbeats 4000000
set_option exponentiation.threshold 500
/-! Numbers of marks. -/
namespace Sq
open PySem PyProof.Rows
theorem zigs_len : ∀ (n : Nat) (k : Kd), (zigs k n).length = n
  | 0, _ => rfl
  | n + 1, k => congrArg Nat.succ (zigs_len n k.ot)
theorem wks_len (w : Wd) (n : Nat) : ((wks w n).length : Int) = w.ks.length * n := by
  cases w with
  | one k => show ((List.replicate n k).length : Int) = ((1 : Nat) : Int) * n; rw [List.length_replicate]; omega
  | two k => show ((zigs k (2 * n)).length : Int) = ((2 : Nat) : Int) * n; rw [zigs_len]; omega
theorem lay1_len (r : Rl) : ∀ (a : Int) (ks : List Kd), (lay1 r a ks).length = ks.length
  | _, [] => rfl
  | a, k :: ks => congrArg Nat.succ (lay1_len r _ ks)
theorem expand_len (r : Rl) {x : Run} (h : 1 ≤ x.2.2) : ((expand r x).length : Int) = x.2.1.ks.length * x.2.2 := by
  unfold expand
  rw [lay1_len, wks_len]
  congr 1
  omega
theorem sing_len (r : Rl) : ∀ {xs : List Run}, (∀ x ∈ xs, 1 ≤ x.2.2) → ((sing r xs).length : Int) = rtot xs
  | [], _ => rfl
  | x :: xs, h => by
    have h1 := expand_len r (h x (List.mem_cons_self ..))
    have h2 := sing_len r (xs := xs) fun y hy => h y (List.mem_cons_of_mem _ hy)
    show ((expand r x ++ sing r xs).length : Int) = marksC (x.2.1, x.2.2) + rtot xs
    rw [List.length_append, Int.natCast_add, h1, h2]
    rfl
theorem lay_pos (r : Rl) : ∀ (at_ : Int) {ks : List (Wd × Int)}, (∀ y ∈ ks, 1 ≤ y.2) → ∀ x ∈ layGo r at_ ks, 1 ≤ x.2.2
  | _, [], _, x, hx => by cases hx
  | at_, (w, t) :: ks, h, x, hx => by
    rcases List.mem_cons.mp hx with rfl | hx
    · exact h (w, t) (List.mem_cons_self ..)
    · exact lay_pos r _ (fun y hy => h y (List.mem_cons_of_mem _ hy)) x hx
theorem tidy_pos {r : Rl} {rs : List Run} (h : ∀ x ∈ rs, 1 ≤ x.2.2) : ∀ x ∈ tidyRuns r rs, 1 ≤ x.2.2 := fun x hx => by
  rw [tidyRuns_eq] at hx
  unfold layAll at hx
  obtain ⟨g, hg, hx2⟩ := List.mem_flatMap.mp hx
  exact lay_pos r _ (fun y hy => (grp_tot h hg hy).1) x hx2
/-- a tidy list has as many marks -/
theorem tidy_rtot {r : Rl} {xs : List Run} (h : ∀ x ∈ xs, 1 ≤ x.2.2) (hs : Spaced r none xs) : rtot (tidyRuns r xs) = rtot xs := by
  rw [← sing_len r (tidy_pos h), ← sing_len r h, sing_tidy h hs]
end Sq
end
section
set_option Elab.async false
set_option linter.all false
set_option maxRecDepth 100000
set_option maxHeartbeats 4000000
set_option exponentiation.threshold 500
/-! Marks that have begun at a tick. -/
namespace Sq
open PySem PyProof.Rows
/-- how many marks of a list have begun -/
def begN (t : Int) (xs : List Run) : Nat := (xs.filter fun y => decide (y.1 ≤ t)).length
theorem begN_app (t : Int) (a b : List Run) : begN t (a ++ b) = begN t a + begN t b := by
  unfold begN
  rw [List.filter_append, List.length_append]
theorem begN_all {t : Int} : ∀ {xs : List Run}, (∀ x ∈ xs, x.1 ≤ t) → begN t xs = xs.length := fun {xs} h => by
  unfold begN
  rw [List.filter_eq_self.mpr fun x hx => decide_eq_true (h x hx)]
theorem begN_none {t : Int} : ∀ {xs : List Run}, (∀ x ∈ xs, t < x.1) → begN t xs = 0 := fun {xs} h => by
  unfold begN
  rw [List.filter_eq_nil_iff.mpr fun x hx => by rw [decide_eq_true_eq]; have := h x hx; omega]
  rfl
/-- the begin of a run's mark by its number -/
def markB (r : Rl) (x : Run) (i : Nat) : Int := match x.2.1 with
  | .one k => x.1 + i * r.per k
  | .two k => x.1 + (i / 2 : Nat) * (Wd.two k).per r + (i % 2 : Nat) * r.per k
def markK (x : Run) (i : Nat) : Kd := match x.2.1 with
  | .one k => k
  | .two k => if i % 2 = 0 then k else k.ot
theorem wks_get : ∀ (w : Wd) (n i : Nat), i < (wks w n).length → (wks w n)[i]? = some (markK (0, w, 0) i)
  | .one k, n, i, h => by
    have h2 : i < n := by simpa [wks] using h
    show (List.replicate n k)[i]? = some k
    rw [List.getElem?_replicate, if_pos h2]
  | .two k, 0, i, h => by simp [wks, zigs] at h
  | .two k, n + 1, 0, h => by show (zigs k (2 * (n + 1)))[0]? = _; rw [zigs_two]; rfl
  | .two k, n + 1, 1, h => by show (zigs k (2 * (n + 1)))[1]? = _; rw [zigs_two]; rfl
  | .two k, n + 1, i + 2, h => by
    have h2 : i < (wks (.two k) n).length := by
      have h3 : i + 2 < (zigs k (2 * (n + 1))).length := h
      rw [zigs_len] at h3
      show i < (zigs k (2 * n)).length
      rw [zigs_len]
      omega
    show (zigs k (2 * (n + 1)))[i + 2]? = _
    rw [zigs_two]
    show (zigs k (2 * n))[i]? = _
    have e := wks_get (.two k) n i h2
    show (wks (.two k) n)[i]? = _
    rw [e]
    show some (if i % 2 = 0 then k else k.ot) = some (if (i + 2) % 2 = 0 then k else k.ot)
    rw [show (i + 2) % 2 = i % 2 by omega]
theorem markB_step (r : Rl) (b : Int) (w : Wd) (t : Int) (i : Nat) : markB r (b, w, t) (i + 1) = markB r (b, w, t) i + r.per (markK (b, w, t) i) := by
  cases w with
  | one k =>
    show b + ((i + 1 : Nat) : Int) * r.per k = b + (i : Int) * r.per k + r.per k
    rw [Int.natCast_add, Int.add_mul]
    omega
  | two k =>
    show b + (((i + 1) / 2 : Nat) : Int) * (Wd.two k).per r + (((i + 1) % 2 : Nat) : Int) * r.per k = b + ((i / 2 : Nat) : Int) * (Wd.two k).per r + ((i % 2 : Nat) : Int) * r.per k + r.per (if i % 2 = 0 then k else k.ot)
    by_cases h : i % 2 = 0
    · rw [if_pos h, show (i + 1) / 2 = i / 2 by omega, show (i + 1) % 2 = 1 by omega, h]
      omega
    · rw [if_neg h, show (i + 1) / 2 = i / 2 + 1 by omega, show (i + 1) % 2 = 0 by omega, show i % 2 = 1 by omega, Int.natCast_add, Int.add_mul, per_two]
      omega
theorem markB_zero (r : Rl) (x : Run) : markB r x 0 = x.1 := by
  obtain ⟨b, w, t⟩ := x
  cases w with
  | one k => show b + ((0 : Nat) : Int) * _ = b; simp
  | two k => show b + ((0 / 2 : Nat) : Int) * _ + ((0 % 2 : Nat) : Int) * _ = b; simp
theorem markB_mono {r : Rl} (ok : r.Ok) (x : Run) {i : Nat} : ∀ {j : Nat}, i < j → markB r x i < markB r x j
  | 0, h => absurd h (by omega)
  | j + 1, h => by
    obtain ⟨b, w, t⟩ := x
    have hp := Wd.per_ge ok (markK (b, w, t) j)
    rw [markB_step]
    rcases Nat.lt_or_ge i j with z | z
    · have := markB_mono ok (b, w, t) z
      omega
    · have e : i = j := by omega
      subst e
      omega
/-- the marks of a run by their numbers -/
theorem lay1_get (r : Rl) (b : Int) (w : Wd) (t : Int) : ∀ (ks : List Kd) (i0 : Nat), (∀ i, i < ks.length → ks[i]? = some (markK (b, w, t) (i0 + i))) → ∀ i, i < ks.length → (lay1 r (markB r (b, w, t) i0) ks)[i]? = some (markB r (b, w, t) (i0 + i), .one (markK (b, w, t) (i0 + i)), 1)
  | [], _, _, i, h => absurd h (by simp)
  | k :: ks, i0, hk, 0, h => by
    have := hk 0 (by simp)
    rw [Nat.add_zero] at this ⊢
    have e : k = markK (b, w, t) i0 := Option.some.inj this
    show some (markB r (b, w, t) i0, Wd.one k, (1 : Int)) = _
    rw [← e]
  | k :: ks, i0, hk, i + 1, h => by
    have e : k = markK (b, w, t) i0 := Option.some.inj (hk 0 (by simp))
    show (lay1 r (markB r (b, w, t) i0 + r.per k) ks)[i]? = _
    rw [e, ← markB_step]
    have h2 := lay1_get r b w t ks (i0 + 1) (fun j hj => by
      have := hk (j + 1) (by simpa using hj)
      rw [show i0 + 1 + j = i0 + (j + 1) by omega]
      exact this) i (by simpa using h)
    rw [show i0 + (i + 1) = i0 + 1 + i by omega]
    exact h2
theorem expand_get (r : Rl) (x : Run) {i : Nat} (h : i < (expand r x).length) : (expand r x)[i]? = some (markB r x i, .one (markK x i), 1) := by
  obtain ⟨b, w, t⟩ := x
  unfold expand at h ⊢
  rw [lay1_len] at h
  have e := lay1_get r b w t (wks w t.toNat) 0 (fun i hi => by rw [Nat.zero_add, wks_get w _ i hi]; rfl) i h
  rw [markB_zero, Nat.zero_add] at e
  exact e
/-- how many marks of a run have begun: the number at which the next one has not -/
theorem begun_at {r : Rl} (ok : r.Ok) {x : Run} {t : Int} {n : Nat} (hn : n ≤ (expand r x).length) (h1 : ∀ i, i < n → markB r x i ≤ t) (h2 : n < (expand r x).length → t < markB r x n) : begN t (expand r x) = n := by
  have e : expand r x = (expand r x).take n ++ (expand r x).drop n := (List.take_append_drop n _).symm
  rw [e, begN_app, begN_all, begN_none, List.length_take, Nat.min_eq_left hn, Nat.add_zero]
  · intro y hy
    obtain ⟨i, hi⟩ := List.mem_iff_getElem?.mp hy
    rw [List.getElem?_drop] at hi
    have hl : n + i < (expand r x).length := (List.getElem?_eq_some_iff.mp hi).1
    rw [expand_get r x hl] at hi
    cases hi
    show t < markB r x (n + i)
    have h3 := h2 (by omega)
    rcases Nat.eq_zero_or_pos i with z | z
    · subst z; exact h3
    · have := markB_mono ok x (i := n) (j := n + i) (by omega)
      omega
  · intro y hy
    obtain ⟨i, hi⟩ := List.mem_iff_getElem?.mp hy
    rw [List.getElem?_take] at hi
    split at hi
    · rename_i hin
      rw [expand_get r x (by omega)] at hi
      cases hi
      exact h1 i hin
    · cases hi
theorem begN_sing (r : Rl) (t : Int) : ∀ xs : List Run, begN t (sing r xs) = (xs.map fun x => begN t (expand r x)).sum
  | [] => rfl
  | x :: xs => by
    show begN t (expand r x ++ sing r xs) = _
    rw [begN_app, begN_sing r t xs, List.map_cons, List.sum_cons]
end Sq
end
section
set_option Elab.async false
set_option linter.all false
set_option maxRecDepth 100000
set_option maxHeartbeats 4000000
set_option exponentiation.threshold 500
/-! A live keyer now, and the closed record. -/
namespace Sq
open PySem PyProof.Rows
theorem relX_f (t : Int) : ∀ (ks : List Kd) (s : MSt), (relX t ks s).runs = s.runs ∧ (relX t ks s).kind = s.kind ∧ (relX t ks s).beg = s.beg ∧ (relX t ks s).rules = s.rules
  | [], s => ⟨rfl, rfl, rfl, rfl⟩
  | k :: ks, s => by
    have h := relX_f t ks (s.happen t k false)
    have e : (s.happen t k false).runs = s.runs ∧ (s.happen t k false).kind = s.kind ∧ (s.happen t k false).beg = s.beg ∧ (s.happen t k false).rules = s.rules := by
      rw [happen_false]
      exact ⟨rfl, rfl, rfl, rfl⟩
    exact ⟨h.1.trans e.1, h.2.1.trans e.2.1, h.2.2.1.trans e.2.2.1, h.2.2.2.trans e.2.2.2⟩
structure Now (r : Rl) (t : Int) (x cl : MSt) (ys : List Run) : Prop where
  rl : cl.rules = r
  t1 : ∀ y ∈ cl.runs, 1 ≤ y.2.2
  x1 : ∀ y ∈ x.runs, 1 ≤ y.2.2
  sp : Spaced r none (sing r cl.runs)
  ms : sing r cl.runs = sing r x.runs ++ ys
  le : ∀ y ∈ sing r x.runs, y.1 ≤ t
  gt : ∀ y ∈ ys, t < y.1
  idle : x.kind = none → ys = [] ∧ x.down = []
  act : ∀ k, x.kind = some k → (∃ zs, sing r x.runs = zs ++ [(x.beg, .one k, 1)]) ∧ x.beg ≤ t ∧ t < x.beg + r.per k ∧ ∀ y ∈ ys, x.beg + r.per k ≤ y.1
theorem now_of {c : Nat} {r : Rl} {es : List Ev} {t : Int} {x : MSt} (h : Keep c r es t x) (ht : Tk t) (hc : c ≤ 3000) {ks : List Kd} (hk : ∀ k ∈ x.down, k ∈ ks) (hl : ks.length ≤ 10) :
    ∃ ys, Now r t x (behind r (es ++ ks.map fun k => (t, k, false)) false) ys := by
  have h2 := h.rels ht ks (by omega)
  have d0 : (relX t ks x).down = [] := by
    rw [relX_down]
    exact List.filter_eq_nil_iff.mpr fun o ho => by simp [hk o ho]
  obtain ⟨a2, ro, ff⟩ := good_fin h2.gs (by omega) (h2.dn.trans d0)
  have r2 := fin_rest a2 h2.gs.ok h2.gs.lg
  have st : Stable t (nf (relX t ks x)) := h2.slow.stable
  have e0 : Rest1 (nf (relX t ks x)) (nf (behind r (es ++ ks.map fun k => (t, k, false)) false)) := by
    have h3 := would_eq h ht hc hk hl
    rw [h3]
    obtain ⟨a1, _, _⟩ := good_fin h2.gx (by omega) d0
    exact fin_rest a1 h2.gx.ok h2.gx.lg
  obtain ⟨fr, fk, fb, fl⟩ := relX_f t ks x
  obtain ⟨⟨u, mu⟩, er, _, ys, e1, e2, e3⟩ := MkOk.rest e0 h2.gx.ok h2.mo
  have rc : (behind r (es ++ ks.map fun k => (t, k, false)) false).rules = r := by
    have : (nf (behind r (es ++ ks.map fun k => (t, k, false)) false)).rules = (nf (relX t ks x)).rules := er
    show (nf (behind r (es ++ ks.map fun k => (t, k, false)) false)).rules = r
    rw [this]
    show (relX t ks x).rules = r
    rw [fl, h.rx]
  have es1 : sing r (behind r (es ++ ks.map fun k => (t, k, false)) false).runs = sing r x.runs ++ ys := by
    have e4 : sing (behind r (es ++ ks.map fun k => (t, k, false)) false).rules (behind r (es ++ ks.map fun k => (t, k, false)) false).runs = sing (relX t ks x).rules (relX t ks x).runs ++ ys := e1
    rw [rc, fl, fr, h.rx] at e4
    exact e4
  have kx : (nf (relX t ks x)).kind = x.kind := fk
  have mo := h.mo
  refine ⟨ys, rc, ro.t1, h.gx.t1, ?_, es1, ?_, ?_, ?_, ?_⟩
  · have := mu.sp
    have e5 : Spaced (behind r (es ++ ks.map fun k => (t, k, false)) false).rules none (sing (behind r (es ++ ks.map fun k => (t, k, false)) false).rules (behind r (es ++ ks.map fun k => (t, k, false)) false).runs) := this
    rw [rc] at e5
    exact e5
  · have := mo.le
    have e5 : ∀ y ∈ sing x.rules x.runs, y.1 ≤ t := this
    rw [h.rx] at e5
    exact e5
  · intro y hy
    cases hkx : x.kind with
    | none => rw [e2 (kx.trans hkx)] at hy; cases hy
    | some k =>
      have h5 := e3 k (kx.trans hkx) y hy
      have h6 := (st k (kx.trans hkx)).1
      omega
  · intro hkx
    exact ⟨e2 (kx.trans hkx), (mo.idle hkx).1⟩
  · intro k hkx
    obtain ⟨⟨zs, hz⟩, hb⟩ := mo.act k hkx
    have h6 := (st k (kx.trans hkx)).1
    have h7 : (relX t ks x).beg + (relX t ks x).rules.per k = x.beg + r.per k := by rw [fb, fl, h.rx]
    refine ⟨⟨zs, ?_⟩, hb, ?_, fun y hy => ?_⟩
    · have e5 : sing x.rules x.runs = zs ++ [(x.beg, .one k, 1)] := hz
      rw [h.rx] at e5
      exact e5
    · have h8 : t < (relX t ks x).beg + (relX t ks x).rules.per k := h6
      omega
    · have h8 : (relX t ks x).beg + (relX t ks x).rules.per k ≤ y.1 := e3 k (kx.trans hkx) y hy
      omega
end Sq
end
section
set_option Elab.async false
set_option linter.all false
set_option maxRecDepth 100000
set_option maxHeartbeats 4000000
set_option exponentiation.threshold 500
/-! What the tidy lists of a live keyer and of the closed record tell. -/
namespace Sq
open PySem PyProof.Rows
theorem sing_tidy2 {r : Rl} {xs : List Run} (h : ∀ x ∈ xs, 1 ≤ x.2.2) (hs : Spaced r none (sing r xs)) : sing r (tidyRuns r xs) = sing r xs := by
  rw [tidy_sing h]
  unfold layP
  rw [sing_flat]
  have e : ∀ g : Int × List Kd, sing r (layGo r g.1 (tidyParts (ones [] g.2))) = lay1 r g.1 g.2 := fun g => by
    obtain ⟨h1, h2⟩ := parts_marks g.2
    rw [sing_lay r _ _ h2, h1]
  have e2 : ∀ l : List (Int × List Kd), (l.flatMap fun g => sing r (layGo r g.1 (tidyParts (ones [] g.2)))) = l.flatMap fun g => lay1 r g.1 g.2 := fun l => flatMap_eq fun g _ => e g
  rw [e2]
  exact go_single (gs := []) (sing_one r xs) hs rfl
theorem spaced_pre (r : Rl) : ∀ {xs ys : List Run} {last : Option Int}, Spaced r last (xs ++ ys) → Spaced r last xs
  | [], _, _, _ => trivial
  | _ :: _, _, _, h => ⟨h.1, spaced_pre r h.2⟩
section
variable {r : Rl} {t : Int} {x cl : MSt} {ys : List Run}
theorem Now.msT (n : Now r t x cl ys) : sing r (tidyRuns r cl.runs) = sing r x.runs ++ ys := (sing_tidy2 n.t1 n.sp).trans n.ms
theorem Now.spx (n : Now r t x cl ys) : Spaced r none (sing r x.runs) := by
  have := n.sp
  rw [n.ms] at this
  exact spaced_pre r this
/-- marks that have begun -/
theorem Now.begun (n : Now r t x cl ys) : (begN t (sing r (tidyRuns r cl.runs)) : Int) = rtot (tidyRuns r x.runs) := by
  rw [n.msT, begN_app, begN_all n.le, begN_none n.gt, ← sing_len r (tidy_pos n.x1), sing_tidy2 n.x1 n.spx]
  rfl
theorem Now.idleT (n : Now r t x cl ys) (h : x.kind = none) : tidyRuns r cl.runs = tidyRuns r x.runs := by
  have e := n.ms
  rw [(n.idle h).1, List.append_nil] at e
  exact tidy_eq n.t1 n.x1 e
theorem lay1_end (r : Rl) : ∀ (ks : List Kd) (a b : Int) (k : Kd) (zs : List Run), lay1 r a ks = zs ++ [(b, .one k, 1)] → b + r.per k = a + persum r ks
  | [], a, b, k, zs, h => by simp [lay1] at h
  | [j], a, b, k, zs, h => by
    have h2 : [(a, Wd.one j, (1 : Int))] = zs ++ [(b, .one k, 1)] := h
    cases zs with
    | nil =>
      injection h2 with h3 h4
      injection h3 with h5 h6
      injection h6 with h7 h8
      injection h7 with h7
      show b + r.per k = a + (r.per j + 0)
      rw [h5, h7]
      omega
    | cons z zs => simp at h2
  | j :: j2 :: ks, a, b, k, zs, h => by
    have h2 : (a, Wd.one j, (1 : Int)) :: lay1 r (a + r.per j) (j2 :: ks) = zs ++ [(b, .one k, 1)] := h
    cases zs with
    | nil =>
      have := congrArg List.length h2
      simp [lay1] at this
    | cons z zs =>
      injection h2 with h3 h4
      rw [lay1_end r (j2 :: ks) (a + r.per j) b k zs h4, persum_cons r j]
      omega
theorem last_end (r : Rl) {tl : List Run} {w : Run} {b : Int} {k : Kd} {zs : List Run} (h : ∀ x ∈ tl ++ [w], 1 ≤ x.2.2) (e : sing r (tl ++ [w]) = zs ++ [(b, .one k, 1)]) : runEnd r w = b + r.per k := by
  obtain ⟨wb, ww, wt⟩ := w
  have h1 : 1 ≤ wt := h (wb, ww, wt) (by simp)
  obtain ⟨n, rfl⟩ := Int.eq_ofNat_of_zero_le (show 0 ≤ wt by omega)
  rw [sing_app] at e
  have e2 : sing r [(wb, ww, (n : Int))] = lay1 r wb (wks ww n) := by
    show lay1 r wb (wks ww n) ++ [] = _
    rw [List.append_nil]
  rw [e2] at e
  have hne : lay1 r wb (wks ww n) ≠ [] := fun z => by
    have := congrArg List.length z
    rw [lay1_len] at this
    exact wks_ne (w := ww) (n := n) (by omega) (List.length_eq_zero_iff.mp this)
  obtain ⟨us, u, hu⟩ : ∃ us u, lay1 r wb (wks ww n) = us ++ [u] := ⟨_, _, (List.dropLast_concat_getLast hne).symm⟩
  rw [hu, ← List.append_assoc] at e
  obtain ⟨_, e3⟩ := List.append_inj' e rfl
  have e4 : u = (b, Wd.one k, (1 : Int)) := (List.cons.inj e3).1
  rw [e4] at hu
  have h5 := lay1_end r _ _ _ _ _ hu
  rw [persum_wks] at h5
  exact h5.symm
/-- where all marks have begun, the end of the last run is the next decision -/
theorem Now.endT (n : Now r t x cl ys) {k : Kd} (hk : x.kind = some k) (he : rtot (tidyRuns r cl.runs) = rtot (tidyRuns r x.runs)) : ∃ tl w, tidyRuns r cl.runs = tl ++ [w] ∧ runEnd r w = x.beg + r.per k := by
  have l1 := sing_len r (tidy_pos (r := r) n.t1)
  have l2 := sing_len r (tidy_pos (r := r) n.x1)
  rw [n.msT, List.length_append] at l1
  rw [sing_tidy2 n.x1 n.spx] at l2
  have hy : ys = [] := List.length_eq_zero_iff.mp (by omega)
  obtain ⟨⟨zs, hz⟩, _⟩ := n.act k hk
  have e := n.msT
  rw [hy, List.append_nil, hz] at e
  have hne : tidyRuns r cl.runs ≠ [] := fun z => by
    rw [z] at e
    have := congrArg List.length e
    simp [sing] at this
  obtain ⟨tl, w, hw⟩ : ∃ tl w, tidyRuns r cl.runs = tl ++ [w] := ⟨_, _, (List.dropLast_concat_getLast hne).symm⟩
  refine ⟨tl, w, hw, ?_⟩
  rw [hw] at e
  exact last_end r (by rw [← hw]; exact tidy_pos n.t1) e
end
end Sq
end
section
set_option Elab.async false
set_option linter.all false
set_option maxRecDepth 100000
set_option maxHeartbeats 4000000
set_option exponentiation.threshold 500
/-! The present mark in the tidy list. -/
namespace Sq
open PySem PyProof.Rows
/-- where a mark stands in a list of runs -/
theorem mark_find (r : Rl) {m : Run} : ∀ {tl : List Run} {zs ys : List Run}, sing r tl = zs ++ m :: ys → ∃ A w B i, tl = A ++ w :: B ∧ (expand r w)[i]? = some m ∧ sing r A ++ (expand r w).take i = zs ∧ (expand r w).drop (i + 1) ++ sing r B = ys
  | [], zs, ys, h => by
    have := congrArg List.length h
    simp [sing] at this
  | v :: tl, zs, ys, h => by
    have h2 : expand r v ++ sing r tl = zs ++ m :: ys := h
    rcases Nat.lt_or_ge zs.length (expand r v).length with hl | hl
    · refine ⟨[], v, tl, zs.length, rfl, ?_, ?_, ?_⟩
      · have e := congrArg (fun l => l[zs.length]?) h2
        rw [List.getElem?_append_left hl, List.getElem?_append_right (Nat.le_refl _), Nat.sub_self] at e
        exact e
      · have e := congrArg (fun l => l.take zs.length) h2
        rw [List.take_append_of_le_length (by omega), List.take_left'] at e
        · exact e
        · rfl
      · have e1 : (expand r v ++ sing r tl).drop (zs.length + 1) = (expand r v).drop (zs.length + 1) ++ sing r tl := List.drop_append_of_le_length (by omega)
        have e2 : (zs ++ m :: ys).drop (zs.length + 1) = ys := by
          rw [List.drop_append, List.drop_eq_nil_of_le (by omega)]
          simp
        rw [← e1, h2, e2]
    · have e1 : zs.take (expand r v).length = expand r v := by
        have e := congrArg (fun l => l.take (expand r v).length) h2
        rw [List.take_left', List.take_append_of_le_length hl] at e
        · exact e.symm
        · rfl
      have e2 : sing r tl = zs.drop (expand r v).length ++ m :: ys := by
        have e := congrArg (fun l => l.drop (expand r v).length) h2
        rw [List.drop_left', List.drop_append_of_le_length hl] at e
        · exact e
        · rfl
      obtain ⟨A, w, B, i, h3, h4, h5, h6⟩ := mark_find r e2
      refine ⟨v :: A, w, B, i, by rw [h3]; rfl, h4, ?_, h6⟩
      show (expand r v ++ sing r A) ++ _ = _
      rw [List.append_assoc, h5, ← List.take_append_drop (expand r v).length zs, e1]
      simp
/-- marks ahead of a mark have ended -/
theorem spaced_end (r : Rl) (ok : r.Ok) : ∀ {zs : List Run} {last : Option Int} {b : Int} {k : Kd} {ys : List Run}, (∀ x ∈ zs, ∃ a j, x = (a, .one j, 1)) → Spaced r last (zs ++ (b, .one k, 1) :: ys) → ∀ a j, (a, Wd.one j, (1 : Int)) ∈ zs → a + r.per j ≤ b
  | [], _, _, _, _, _, _, a, j, h => by cases h
  | z :: zs, last, b, k, ys, ho, hs, a, j, h => by
    have ho2 : ∀ x ∈ zs, ∃ a j, x = (a, .one j, 1) := fun x hx => ho x (List.mem_cons_of_mem _ hx)
    obtain ⟨za, zj, rfl⟩ := ho z (List.mem_cons_self ..)
    have h2 : Spaced r (some (runEnd r (za, .one zj, 1))) (zs ++ (b, .one k, 1) :: ys) := hs.2
    rw [runEnd1] at h2
    have first : ∀ {zs : List Run} {e : Int}, (∀ x ∈ zs, ∃ a j, x = (a, .one j, 1)) → Spaced r (some e) (zs ++ (b, .one k, 1) :: ys) → e ≤ b := by
      intro zs
      induction zs with
      | nil => exact fun _ g => g.1 _ rfl
      | cons y zs ih =>
        intro e hy g
        obtain ⟨ya, yj, rfl⟩ := hy y (List.mem_cons_self ..)
        have g1 := g.1 _ rfl
        have g2 : Spaced r (some (runEnd r (ya, .one yj, 1))) (zs ++ (b, .one k, 1) :: ys) := g.2
        rw [runEnd1] at g2
        have g3 := ih (fun x hx => hy x (List.mem_cons_of_mem _ hx)) g2
        have := Wd.per_ge ok yj
        have g4 : e ≤ ya := g1
        omega
    rcases List.mem_cons.mp h with e | h
    · cases e
      exact first ho2 h2
    · exact spaced_end r ok ho2 h2 a j h
end Sq
namespace Sq
open PySem PyProof.Rows
theorem Wd.len1r {r : Rl} (ok : r.Ok) (k : Kd) : 1 ≤ r.len k := by
  cases k with
  | s => exact ok.s1
  | l => exact ok.l1
/-- the present mark is found in the closed record's runs at the last tick of its own -/
theorem Now.atT {r : Rl} {t : Int} {x cl : MSt} {ys : List Run} (n : Now r t x cl ys) (ok : r.Ok) {k : Kd} (hk : x.kind = some k) :
    ∃ A w B i, tidyRuns r cl.runs = A ++ w :: B ∧ i < (expand r w).length ∧ markB r w i = x.beg ∧ markK w i = k ∧ begN (x.beg + r.len k - 1) (expand r w) = i + 1 ∧
      ∀ v ∈ A, ∀ j, j < (expand r v).length → markB r v j + r.per (markK v j) ≤ x.beg := by
  obtain ⟨⟨zs, hz⟩, hb, hb2, hy⟩ := n.act k hk
  have hl := Wd.len1r ok k
  have hp : r.per k = r.len k + r.p := rfl
  have p1 := ok.p1
  have e := n.msT
  rw [hz, List.append_assoc] at e
  obtain ⟨A, w, B, i, h1, h2, h3, h4⟩ := mark_find r (zs := zs) (m := (x.beg, .one k, 1)) (ys := ys) e
  have hi : i < (expand r w).length := (List.getElem?_eq_some_iff.mp h2).1
  have hg := expand_get r w hi
  rw [h2] at hg
  have hg2 := Option.some.inj hg
  have hmb : x.beg = markB r w i := congrArg (fun z => z.1) hg2
  have hmk : k = markK w i := by
    have e1 : Wd.one k = Wd.one (markK w i) := congrArg (fun z => z.2.1) hg2
    injection e1
  have sp : Spaced r none (zs ++ (x.beg, Wd.one k, 1) :: ys) := by
    have := n.sp
    rw [n.ms, hz, List.append_assoc] at this
    exact this
  have one : ∀ y ∈ zs, ∃ a j, y = (a, .one j, 1) := fun y hyz => sing_one r x.runs y (by rw [hz]; exact List.mem_append_left _ hyz)
  refine ⟨A, w, B, i, h1, hi, hmb.symm, hmk.symm, ?_, fun v hv j hj => ?_⟩
  · refine begun_at ok (by omega) (fun j hj => ?_) (fun hlt => ?_)
    · rcases Nat.lt_or_ge j i with z | z
      · have := markB_mono ok w z
        omega
      · have : j = i := by omega
        subst this
        omega
    · have := markB_step r w.1 w.2.1 w.2.2 i
      have e1 : markB r w (i + 1) = markB r w i + r.per (markK w i) := this
      rw [e1, ← hmb, ← hmk]
      omega
  · refine spaced_end r ok one sp _ _ ?_
    rw [← h3]
    refine List.mem_append_left _ ?_
    have hgv := expand_get r v hj
    have hm : (markB r v j, Wd.one (markK v j), (1 : Int)) ∈ expand r v := List.mem_of_getElem? hgv
    exact List.mem_flatMap.mpr ⟨v, hv, hm⟩
end Sq
end
section
set_option Elab.async false
set_option linter.all false
set_option maxRecDepth 100000
set_option maxHeartbeats 4000000
set_option exponentiation.threshold 500
/-! Marks by index, the mark at a tick, totals; what the closed record tells of a live keyer. -/
namespace Sq
open PySem PyProof.Rows
/-- the end of a run's mark by its number -/
def markE (r : Rl) (x : Run) (i : Nat) : Int := markB r x i + r.len (markK x i)
def markAt (r : Rl) (t : Int) : List Run → Option (Run × Nat)
  | [] => none
  | w :: ws => if 0 < begN t (expand r w) ∧ t < markE r w (begN t (expand r w) - 1) then some (w, begN t (expand r w) - 1) else markAt r t ws
theorem begN_le (t : Int) (xs : List Run) : begN t xs ≤ xs.length := List.length_filter_le _ _
theorem markAt_skip {r : Rl} {t : Int} : ∀ {A ws : List Run}, (∀ v ∈ A, ¬ (0 < begN t (expand r v) ∧ t < markE r v (begN t (expand r v) - 1))) → markAt r t (A ++ ws) = markAt r t ws
  | [], _, _ => rfl
  | v :: A, ws, h => by
    show (if 0 < begN t (expand r v) ∧ t < markE r v (begN t (expand r v) - 1) then _ else markAt r t (A ++ ws)) = _
    rw [if_neg (h v (List.mem_cons_self ..))]
    exact markAt_skip fun u hu => h u (List.mem_cons_of_mem _ hu)
theorem Now.markT {r : Rl} {t : Int} {x cl : MSt} {ys : List Run} (n : Now r t x cl ys) (ok : r.Ok) {k : Kd} (hk : x.kind = some k) :
    ∃ w i, markAt r (x.beg + r.len k - 1) (tidyRuns r cl.runs) = some (w, i) ∧ w ∈ tidyRuns r cl.runs ∧ markB r w i = x.beg ∧ markE r w i = x.beg + r.len k := by
  obtain ⟨A, w, B, i, e, hi, hb, hkd, hn, hA⟩ := n.atT ok hk
  have hl := Wd.len1r ok k
  have p1 := ok.p1
  have hE : markE r w i = x.beg + r.len k := by unfold markE; rw [hb, hkd]
  refine ⟨w, i, ?_, by rw [e]; simp, hb, hE⟩
  have hs : ∀ v ∈ A, ¬ (0 < begN (x.beg + r.len k - 1) (expand r v) ∧ x.beg + r.len k - 1 < markE r v (begN (x.beg + r.len k - 1) (expand r v) - 1)) := by
    rintro v hv ⟨h1, h2⟩
    have hlt := begN_le (x.beg + r.len k - 1) (expand r v)
    have h3 := hA v hv (begN (x.beg + r.len k - 1) (expand r v) - 1) (by omega)
    have hp : r.per (markK v (begN (x.beg + r.len k - 1) (expand r v) - 1)) = r.len (markK v (begN (x.beg + r.len k - 1) (expand r v) - 1)) + r.p := rfl
    unfold markE at h2
    omega
  rw [e, markAt_skip hs]
  unfold markAt
  rw [hn, Nat.add_sub_cancel, if_pos ⟨Nat.succ_pos _, by rw [hE]; omega⟩]
/-! ### releases in any sequence -/
theorem perm_two {α : Type} {a b : α} {ys : List α} (h : ys.Perm [a, b]) : ys = [a, b] ∨ ys = [b, a] := by
  have hl := h.length_eq
  match ys, hl with
  | [x, y], _ =>
    have hx : x ∈ [a, b] := h.subset (List.mem_cons_self ..)
    rcases List.mem_cons.mp hx with rfl | hx
    · left
      have := List.perm_singleton.mp ((List.perm_cons x).mp h)
      rw [this]
    · right
      obtain rfl := List.mem_singleton.mp hx
      have := List.perm_singleton.mp ((List.perm_cons x).mp (h.trans (List.Perm.swap _ _ _)))
      rw [this]
theorem relX_perm {t : Int} {ks : List Kd} {x : MSt} (hp : ks.Perm x.down) (hd : DownOk x.down) (lg : x.logged = false) : relX t ks x = relX t x.down x := by
  rcases hd with e | e | e | e
  · rw [e] at hp ⊢; rw [List.perm_nil.mp hp]
  · rw [e] at hp ⊢; rw [List.perm_singleton.mp hp]
  · rw [e] at hp ⊢; rw [List.perm_singleton.mp hp]
  · rw [e] at hp ⊢
    rcases perm_two hp with rfl | rfl
    · rfl
    · exact rel_swap lg t .s .l
/-- what a live keyer would send, tidy, is what the closed record sends -/
theorem would_tidy {c : Nat} {r : Rl} {es : List Ev} {t : Int} {x : MSt} (h : Keep c r es t x) (ht : Tk t) (hc : c ≤ 3000) {ks : List Kd} (hp : ks.Perm x.down) :
    (behind r (es ++ ks.map fun k => (t, k, false)) false).tidy = (relX t x.down x).fin.tidy := by
  have hl : ks.length ≤ 2 := by rw [hp.length_eq]; exact h.gx.dn.len
  have hk : ∀ k ∈ x.down, k ∈ ks := fun k hk => hp.symm.subset hk
  have e := would_eq h ht hc hk (by omega)
  rw [relX_perm hp h.gx.dn h.gx.lg] at e
  have h2 := h.rels ht ks (by omega)
  have d0 : (relX t ks x).down = [] := by
    rw [relX_down]
    exact List.filter_eq_nil_iff.mpr fun o ho => by simp [hk o ho]
  obtain ⟨_, ra, _⟩ := good_fin h2.gs (by omega) (h2.dn.trans d0)
  obtain ⟨_, rb, _⟩ := good_fin h2.gx (by omega) d0
  rw [relX_perm hp h.gx.dn h.gx.lg] at rb
  have e1 : (behind r (es ++ ks.map fun k => (t, k, false)) false).rules = (relX t x.down x).fin.rules := by
    have h := congrArg MSt.rules e
    exact h
  have e2 : sing (behind r (es ++ ks.map fun k => (t, k, false)) false).rules (behind r (es ++ ks.map fun k => (t, k, false)) false).runs = sing (relX t x.down x).fin.rules (relX t x.down x).fin.runs := by
    have h := congrArg MSt.runs e
    exact h
  unfold MSt.tidy
  rw [e1] at e2 ⊢
  exact tidy_eq ra.t1 rb.t1 e2
/-! ### totals -/
theorem kds_len : ∀ {ks : List (Wd × Int)}, (∀ x ∈ ks, 1 ≤ x.2) → ((kdsOf ks).length : Int) = tot ks
  | [], _ => rfl
  | x :: ks, h => by
    have h1 := h x (List.mem_cons_self ..)
    have h2 := kds_len (ks := ks) fun y hy => h y (List.mem_cons_of_mem _ hy)
    show ((wks x.1 x.2.toNat ++ kdsOf ks).length : Int) = x.1.ks.length * x.2 + tot ks
    rw [List.length_append, Int.natCast_add, h2, wks_len]
    congr 2
    omega
theorem tidyK_tot {ks : List (Wd × Int)} (h : ∀ x ∈ ks, 1 ≤ x.2) : tot (tidyKinds ks) = tot ks ∧ ∀ x ∈ tidyKinds ks, 1 ≤ x.2 := by
  have e : tidyKinds ks = tidyParts (ones [] (kdsOf ks)) := by
    unfold tidyKinds
    rw [putAll_ones (show PI [] from trivial) h]
  obtain ⟨h1, h2⟩ := parts_marks (kdsOf ks)
  rw [e]
  refine ⟨?_, h2⟩
  rw [← kds_len h2, ← kds_len h, h1]
end Sq
end
section
set_option Elab.async false
set_option linter.all false
set_option maxRecDepth 100000
set_option maxHeartbeats 4000000
/-! A slice of a list with a step. -/
namespace Sq
open PySem PySem.Spec PyProof.Rows L2
/-- the items that a slice with a step picks -/
def pickV {α : Type} (xs : List α) (lo hi st : Option Int) : List α := (sliceRange (sliceBounds lo hi st xs.length).1 (sliceBounds lo hi st xs.length).2.1 (sliceBounds lo hi st xs.length).2.2).filterMap (xs[·]?)
theorem pick_arr (items : List Value) (lo hi st : Option Int) : slicePick items.toArray lo hi st = (pickV items lo hi st).toArray := by
  unfold slicePick pickV
  rw [List.size_toArray]
  congr 2
  funext i
  exact List.getElem?_toArray ..
theorem vals_pick {xs : List V} {its : List Value} (r : Vals xs its) : ∀ is : List Nat, Vals (is.filterMap (xs[·]?)) (is.filterMap (its[·]?))
  | [] => .nil
  | i :: is => by
    have ih := vals_pick r is
    have hl := r.length
    by_cases h : i < xs.length
    · have h1 : xs[i]? = some xs[i] := List.getElem?_eq_getElem h
      have h2 : its[i]? = some its[i] := List.getElem?_eq_getElem (by omega)
      rw [List.filterMap_cons_some h1, List.filterMap_cons_some h2]
      obtain ⟨b, e, rb⟩ := L2.paired_get r h1
      rw [h2] at e
      cases e
      exact .cons rb ih
    · have h1 : xs[i]? = none := List.getElem?_eq_none (by omega)
      have h2 : its[i]? = none := List.getElem?_eq_none (by omega)
      rw [List.filterMap_cons_none h1, List.filterMap_cons_none h2]
      exact ih
theorem pick_len {α : Type} (xs : List α) (lo hi : Option Int) {st : Int} (h : st ≠ 0) : (pickV xs lo hi (some st)).length ≤ xs.length := by
  unfold pickV
  refine Nat.le_trans (List.length_filterMap_le _ _) ?_
  refine sliceRange_length_le _ _ _ _ (fun hp => ?_) (fun hp => ?_)
  · have hq : st > 0 := hp
    clear hp
    refine ⟨?_, ?_⟩
    · cases lo with
      | none => show (0 : Int) ≤ if st > 0 then 0 else _; rw [if_pos hq]; decide
      | some i =>
        show (0 : Int) ≤ if st > 0 then _ else _
        rw [if_pos hq]
        omega
    · cases hi with
      | none => show (if st > 0 then (xs.length : Int) else -1) ≤ _; rw [if_pos hq]; exact Int.le_refl _
      | some i =>
        show (if st > 0 then _ else _) ≤ (xs.length : Int)
        rw [if_pos hq]
        omega
  · have hq : ¬ st > 0 := hp
    clear hp
    refine ⟨?_, ?_⟩
    · cases lo with
      | none => show (if st > 0 then 0 else (xs.length : Int) - 1) ≤ _; rw [if_neg hq]; exact Int.le_refl _
      | some i =>
        show (if st > 0 then _ else _) ≤ (xs.length : Int) - 1
        rw [if_neg hq]
        omega
    · cases hi with
      | none => show -1 ≤ (if st > 0 then (xs.length : Int) else -1); rw [if_neg hq]; decide
      | some i =>
        show -1 ≤ (if st > 0 then _ else _)
        rw [if_neg hq]
        omega
theorem all_get {α : Type} (xs : List α) : (List.range xs.length).filterMap (xs[·]?) = xs := by
  have h := PySem.W.krv_all xs.toArray
  rw [List.size_toArray] at h
  refine Eq.trans ?_ h
  congr 1
  funext i
  exact (List.getElem?_toArray ..).symm
theorem pick_one {α : Type} (xs : List α) : pickV xs none none (some 1) = xs := by
  have e : pickV xs none none (some 1) = (sliceRange 0 xs.length 1).filterMap (xs[·]?) := rfl
  rw [e]
  have e2 : sliceRange 0 (xs.length : Int) 1 = List.range xs.length := by
    unfold sliceRange
    rw [if_pos (by decide)]
    have e3 : (if (0 : Int) < (xs.length : Int) then ((xs.length : Int) - 0 + 1 - 1) / 1 else 0).toNat = xs.length := by
      rw [Int.ediv_one]
      split <;> omega
    dsimp only
    rw [e3]
    have : (fun k : Nat => (0 + 1 * (k : Int)).toNat) = id := by funext k; show (0 + 1 * (k : Int)).toNat = k; omega
    rw [this, List.map_id]
  rw [e2, all_get]
theorem pick_rev {α : Type} (xs : List α) : pickV xs none none (some (-1)) = xs.reverse := by
  have e : pickV xs none none (some (-1)) = (sliceRange ((xs.length : Int) - 1) (-1) (-1)).filterMap (xs[·]?) := rfl
  rw [e, PySem.W.krv_sliceRange, PySem.W.krv_range, List.filterMap_reverse, all_get]
def tStepL (K : PySem.W.Frag) (te : TE) (tl th : TO) (ts : TE) : TE := fun σ H Q => te σ H fun x H1 => tl σ H1 fun l H2 => th σ H2 fun u H3 => tPart ts σ H3 fun o H4 => ∃ a xs i, x = .ref a ∧ o = some i ∧ i ≠ 0 ∧ SqL K H4 a xs ∧ ∀ p, H4 p = none → Q (.ref p) (upd H4 p (.lst (pickV xs l u (some i))))
section
variable {X : Cx}
theorem pe_stepL {e es : Expr} {lo hi : Option Expr} {te ts : TE} {tl th : TO} {p2 pos : Pos} (he : PE X e te) (hl : PO X lo tl) (hh : PO X hi th) (hs : PE X es ts) : PE X (.Subscript e (.Slice lo hi (some es) p2) pos) (tStepL X.K te tl th ts) := by
  refine ⟨fun pins s σ H Q I h => ?_⟩
  refine Subscript_ (thn (he.run pins s σ H _ I h) fun v s1 ⟨x, H1, I1, r1, q1⟩ => ?_)
  refine wpAny_Slice (thn (hl.run pins s1 σ H1 _ I1 q1) fun vl s2 ⟨l, H2, I2, pl, q2⟩ => ?_)
  refine thn (hh.run pins s2 σ H2 _ I2 q2) fun vu s3 ⟨u, H3, I3, pu, q3⟩ => ?_
  refine thn ((po_some hs).run pins s3 σ H3 _ I3 q3) fun vs s4 ⟨o, H4, I4, ps, a, xs, i, ex, eo, hi0, hx, q⟩ => ?_
  subst ex eo
  cases r1
  have I5 : Inv X pins σ H4 { s4 with heap := s4.heap.push { cls := .type "slice", data := .fields #[vl, vu, vs] } } := I4.kept (t' := s4.toks) fun b ob q => Heap.get?_push_of_some _ q
  obtain ⟨its, r, ht, hz⟩ := I5.list hx
  have hlen := r.length
  show wpAny (model X.prog X.w) X.A (subscriptTail e (.Slice lo hi (some es) p2) (.ref a) (.ref s4.heap.objs.size)) (EP X pins σ Q) X.xe { s4 with heap := s4.heap.push { cls := .type "slice", data := .fields #[vl, vu, vs] } }
  refine tail_any (ops := [.ref a, .ref s4.heap.objs.size]) ht.isList.typeIs (PySem.slot_list_getitem.lookup) ?_ (by with_unfolding_all rfl)
  refine wpAny_getItem_list_slice ht.isList (Heap.IsSliceOf.new _ vl vu vs) pl pu ps (by simpa using hi0) ?_ (by rw [List.size_toArray]; omega)
  rw [pick_arr]
  refine ⟨.ref _, _, I5.laid (t' := s4.toks) (o := .lst (pickV xs l u (some i))) (fun b ob q => Heap.get?_push_of_some _ q) (Nat.le_refl _) ?_, rfl, q _ (I5.hok.fresh (Nat.le_refl _))⟩
  refine ⟨Nat.le_trans (pick_len xs l u hi0) hz, _, 0, ?_, Heap.get?_push_size _ rfl⟩
  have e := vals_pick r (sliceRange (sliceBounds l u (some i) xs.length).1 (sliceBounds l u (some i) xs.length).2.1 (sliceBounds l u (some i) xs.length).2.2)
  rw [show pickV its l u (some i) = (sliceRange (sliceBounds l u (some i) xs.length).1 (sliceBounds l u (some i) xs.length).2.1 (sliceBounds l u (some i) xs.length).2.2).filterMap (its[·]?) by unfold pickV; rw [hlen]]
  exact e
end
section
variable {K : PySem.W.Frag} {σ : L2.St} {H : Hp} {Q : VK}
theorem r_stepL {te ts : TE} {tl th : TO} (h : te σ H fun x H1 => tl σ H1 fun l H2 => th σ H2 fun u H3 => ts σ H3 fun z H4 => ∃ j, z = .int j ∧ ∃ a xs i, x = .ref a ∧ some j = some i ∧ i ≠ 0 ∧ SqL K H4 a xs ∧ ∀ p, H4 p = none → Q (.ref p) (upd H4 p (.lst (pickV xs l u (some i))))) : tStepL K te tl th ts σ H Q := h
theorem r_step {a : Addr} {xs : List V} {l u : Option Int} {i : Int} (hi : i ≠ 0) (h : SqL K H a xs) (q : ∀ p, H p = none → Q (.ref p) (upd H p (.lst (pickV xs l u (some i))))) : ∃ j, V.int i = .int j ∧ ∃ b ys k, V.ref a = .ref b ∧ some j = some k ∧ k ≠ 0 ∧ SqL K H b ys ∧ ∀ p, H p = none → Q (.ref p) (upd H p (.lst (pickV ys l u (some k)))) := ⟨i, rfl, a, xs, i, rfl, rfl, hi, h, q⟩
end
end Sq
end
section
set_option Elab.async false
set_option linter.all false
set_option maxRecDepth 100000
set_option maxHeartbeats 4000000
/-! == of data that are the same. -/
namespace Sq
open PySem PySem.Spec PyProof.Rows L2
/-- data that == may look at, equal to themselves -/
def GD (n : Nat) (d : PyData) : Prop := d.canLay0 = true ∧ d.depth ≤ n ∧ PyData.eqv d d = true
def GDs (n : Nat) (ds : List PyData) : Prop := PyData.canLayAll0 ds = true ∧ PyData.depthAll ds ≤ n ∧ PyData.eqvAll ds ds = true
theorem GDs.nil {n : Nat} : GDs n [] := ⟨rfl, Nat.zero_le _, by simp [PyData.eqvAll]⟩
theorem GDs.cons {n : Nat} {d : PyData} {ds : List PyData} (h : GD n d) (t : GDs n ds) : GDs n (d :: ds) := by
  refine ⟨?_, ?_, ?_⟩
  · show (d.canLay0 && PyData.canLayAll0 ds) = true
    rw [h.1, t.1]
    rfl
  · show max d.depth (PyData.depthAll ds) ≤ n
    have := h.2.1
    have := t.2.1
    omega
  · simp only [PyData.eqvAll, Bool.and_eq_true]
    exact ⟨h.2.2, t.2.2⟩
theorem GD.tup {n : Nat} {ds : List PyData} (h : GDs n ds) : GD (n + 1) (.tuple ds) := ⟨h.1, Nat.succ_le_succ h.2.1, by simp only [PyData.eqv]; exact h.2.2⟩
theorem GD.lst {n : Nat} {ds : List PyData} (h : GDs n ds) : GD (n + 1) (.list ds) := ⟨h.1, Nat.succ_le_succ h.2.1, by simp only [PyData.eqv]; exact h.2.2⟩
theorem GD.mono {n m : Nat} {d : PyData} (h : GD n d) (l : n ≤ m) : GD m d := ⟨h.1, Nat.le_trans h.2.1 l, h.2.2⟩
theorem GD.flat : ∀ {v : V}, datV v = true → GD 0 (fd v)
  | .non, _ => ⟨rfl, Nat.le_refl _, by simp [fd, PyData.eqv]⟩
  | .bl b, _ => ⟨rfl, Nat.le_refl _, by simp [fd, PyData.eqv]⟩
  | .int i, _ => ⟨rfl, Nat.le_refl _, by simp [fd, PyData.eqv]⟩
  | .str x, h => ⟨(Bool.and_eq_true_iff.mp h).2, Nat.le_refl _, by simp [fd, PyData.eqv]⟩
theorem GDs.flat : ∀ {xs : List V}, xs.all datV = true → GDs 0 (xs.map fd)
  | [], _ => .nil
  | v :: vs, h => by
    rw [List.all_cons, Bool.and_eq_true] at h
    exact .cons (GD.flat h.1) (GDs.flat h.2)
theorem GDs.mono {n m : Nat} {ds : List PyData} (h : GDs n ds) (l : n ≤ m) : GDs m ds := ⟨h.1, Nat.le_trans h.2.1 l, h.2.2⟩
/-- rows of tuples as data -/
def rowsD {α : Type} (f : α → List V) (ds : List α) : List PyData := ds.map fun d => .tuple ((f d).map fd)
section
variable {α : Type} {f : α → List V} {K : PySem.W.Frag} {H : Hp}
theorem rows_dp (hf : ∀ d, (f d).all datV = true) : ∀ {xs : List V} {ds : List α}, Rows H f xs ds → DpAll K H xs (rowsD f ds)
  | _, _, .nil => .nil
  | _, _, .cons (b := d) ⟨a, h1, h2⟩ t => by
    rw [h1]
    exact .cons (.tup (SqT.of h2) (dpAll_flat (dat_flat (hf d)))) (rows_dp hf t)
theorem rows_gd (hf : ∀ d, (f d).all datV = true) : ∀ {ds : List α}, GDs 1 (rowsD f ds)
  | [] => .nil
  | d :: ds => .cons (GD.tup (GDs.flat (hf d))) (rows_gd hf)
theorem r_eqG {x y : V} {d : PyData} {Q : VK} (hx : Dp K H x d) (hy : Dp K H y d) (g : GD 60 d) (q : Q (.bl true) H) : rEqD K x y H Q := by
  have hs : SeqAt.shaped d = true ∨ True := .inr trivial
  refine ⟨d, d, hx, hy, ?_, ?_, ?_⟩
  · show (d.canLay0 && decide (d.depth ≤ 64)) = true
    rw [g.1, decide_eq_true (Nat.le_trans g.2.1 (by decide))]
    rfl
  · show (d.canLay0 && decide (d.depth ≤ 64)) = true
    rw [g.1, decide_eq_true (Nat.le_trans g.2.1 (by decide))]
    rfl
  · rw [g.2.2]
    exact q
theorem r_neG {x y : V} {d : PyData} {Q : VK} (hx : Dp K H x d) (hy : Dp K H y d) (g : GD 60 d) (q : Q (.bl false) H) : rNeD K x y H Q := by
  refine ⟨d, d, hx, hy, ?_, ?_, ?_⟩
  · show (d.canLay0 && decide (d.depth ≤ 64)) = true
    rw [g.1, decide_eq_true (Nat.le_trans g.2.1 (by decide))]
    rfl
  · show (d.canLay0 && decide (d.depth ≤ 64)) = true
    rw [g.1, decide_eq_true (Nat.le_trans g.2.1 (by decide))]
    rfl
  · rw [g.2.2]
    exact q
/-- lists of rows that are the same -/
theorem r_eqRows {a p : Addr} {xs ys : List V} {ds : List α} {Q : VK} (hf : ∀ d, (f d).all datV = true) (hx : SqL K H a xs) (hX : Rows H f xs ds) (hp : SqL K H p ys) (hY : Rows H f ys ds) (q : Q (.bl true) H) : rEqD K (.ref a) (.ref p) H Q :=
  r_eqG (.lst hx (rows_dp hf hX)) (.lst hp (rows_dp hf hY)) ((GD.lst (rows_gd hf)).mono (by decide)) q
theorem r_neRows {a p : Addr} {xs ys : List V} {ds : List α} {Q : VK} (hf : ∀ d, (f d).all datV = true) (hx : SqL K H a xs) (hX : Rows H f xs ds) (hp : SqL K H p ys) (hY : Rows H f ys ds) (q : Q (.bl false) H) : rNeD K (.ref a) (.ref p) H Q :=
  r_neG (.lst hx (rows_dp hf hX)) (.lst hp (rows_dp hf hY)) ((GD.lst (rows_gd hf)).mono (by decide)) q
/-- lists of flat values that are the same -/
theorem r_eqFlat {a p : Addr} {xs : List V} {Q : VK} (hf : xs.all datV = true) (hx : SqL K H a xs) (hp : SqL K H p xs) (q : Q (.bl true) H) : rEqD K (.ref a) (.ref p) H Q :=
  r_eqG (.lst hx (dpAll_flat (dat_flat hf))) (.lst hp (dpAll_flat (dat_flat hf))) ((GD.lst (GDs.flat hf)).mono (by decide)) q
theorem r_neFlat {a p : Addr} {xs : List V} {Q : VK} (hf : xs.all datV = true) (hx : SqL K H a xs) (hp : SqL K H p xs) (q : Q (.bl false) H) : rNeD K (.ref a) (.ref p) H Q :=
  r_neG (.lst hx (dpAll_flat (dat_flat hf))) (.lst hp (dpAll_flat (dat_flat hf))) ((GD.lst (GDs.flat hf)).mono (by decide)) q
/-- tuples of flat values that are the same -/
theorem r_eqFlatT {a p : Addr} {xs : List V} {Q : VK} (hf : xs.all datV = true) (hx : SqT K H a xs) (hp : SqT K H p xs) (q : Q (.bl true) H) : rEqD K (.ref a) (.ref p) H Q :=
  r_eqG (.tup hx (dpAll_flat (dat_flat hf))) (.tup hp (dpAll_flat (dat_flat hf))) ((GD.tup (GDs.flat hf)).mono (by decide)) q
theorem r_neFlatT {a p : Addr} {xs : List V} {Q : VK} (hf : xs.all datV = true) (hx : SqT K H a xs) (hp : SqT K H p xs) (q : Q (.bl false) H) : rNeD K (.ref a) (.ref p) H Q :=
  r_neG (.tup hx (dpAll_flat (dat_flat hf))) (.tup hp (dpAll_flat (dat_flat hf))) ((GD.tup (GDs.flat hf)).mono (by decide)) q
end
end Sq
end
section
set_option Elab.async false
set_option linter.all false
set_option maxRecDepth 100000
set_option maxHeartbeats 4000000
/-! sum, max, min of tuples of ints. -/
namespace Sq
open PySem PySem.Spec PyProof.Rows L2
abbrev tupIt (l : Addr) : Obj := { cls := .type "tuple_iterator", data := .fields #[.ref l, .int 0 0] }
/-- the heap with an iterator over a tuple -/
theorem tup_it {h : Heap} {l : Addr} {its : Array Value} (t : h.IsTuple l its) : l < h.objs.size ∧ ((h.push (tupIt l)).IsTupleIter h.objs.size l 0 ∧ (h.push (tupIt l)).IsTuple l its) ∧
    (∀ b, b ∈ [h.objs.size, l] → b < (h.push (tupIt l)).objs.size) ∧
    ∀ h' : Heap, (∀ b o, b ∉ [h.objs.size] → (h.push (tupIt l)).get? b = some o → h'.get? b = some o) → ∀ b o, h.get? b = some o → h'.get? b = some o := by
  have lt : l < h.objs.size := t.elim fun _ z => Heap.lt_size z.1
  refine ⟨lt, ⟨⟨tupIt l, Heap.get?_push_size _ rfl, rfl, rfl⟩, t.push _⟩, fun b hb => ?_, fun h' k b o e => ?_⟩
  · have sz : (h.push (tupIt l)).objs.size = h.objs.size + 1 := Heap.size_push ..
    rw [sz]
    simp only [List.mem_cons, List.not_mem_nil, or_false] at hb
    rcases hb with z | z
    · rw [z]; exact Nat.lt_succ_self _
    · rw [z]; exact Nat.lt_succ_of_lt lt
  · have lb := Heap.lt_size e
    refine k b o (fun z => ?_) (Heap.get?_push_of_some _ e)
    rw [List.mem_singleton.mp z] at lb
    exact Nat.lt_irrefl _ lb
section
variable {prog : Program} {w : World} {A : Around} {E : Value → Shared → Prop} {s : Shared} {l : Addr} {its : List Value} {ns : List Int} {Q : Value → Shared → Prop}
/-- the ints of a tuple by number -/
theorem ints_nth (hi : IntsAre its ns) : ∃ xs : Array (Int × Tok), its.toArray = intItems xs ∧ xs.size = ns.length ∧ (∀ i, i < ns.length → ∃ z ∈ ns, numAt xs i = z) ∧ (∀ z, z ∈ ns → ∃ i, i < ns.length ∧ numAt xs i = z) ∧ preSum (numAt xs) xs.size = ns.sum := by
  obtain ⟨xs, e⟩ := hi.allInts.items
  have n0 : numsOf (intItems xs).toList = ns := e ▸ hi.numsOf
  rw [nums_intItems] at n0
  have sz : xs.size = ns.length := by rw [← n0]; simp
  refine ⟨xs, e, sz, fun i hi2 => ⟨numAt xs i, ?_, rfl⟩, fun z hz => ?_, ?_⟩
  · rw [← n0, numAt_eq]
    exact PySem.getD_mem (by rw [n0]; exact hi2)
  · rw [← n0] at hz
    obtain ⟨i, h1, h2⟩ := mem_getD hz
    rw [n0] at h1
    exact ⟨i, h1, by rw [numAt_eq]; exact h2⟩
  · rw [preSum_eq, n0, List.take_of_length_le (Nat.le_of_eq sz.symm)]
theorem sumT_raw (hh : A.handled = none) (hl : s.heap.IsTuple l its.toArray) (hi : IntsAre its ns)
    (h : ∀ h' tk t', (∀ b o, s.heap.get? b = some o → h'.get? b = some o) → Q (.int ns.sum t') { s with heap := h', toks := tk }) : wpAny (model prog w) A (call (.builtin "sum") [.ref l]) Q E s := by
  obtain ⟨xs, e, sz, _, _, ps⟩ := ints_nth hi
  rw [e] at hl
  obtain ⟨lt, st, fp, kp⟩ := tup_it hl
  have hn : (intItems xs).size = xs.size := by simp [intItems]
  refine call_sum_walkG (wpAny_pyIter_tuple hl ⟨_, _, _, _, _, _, numAt xs, rfl, Walks.tuple (A := A.in1) hh _ l (Nat.ne_of_lt lt) (intItems xs), st, fp, fun _ _ => intItems_at, fun h' tk t' k => ?_⟩)
  rw [hn, ps]
  exact h h' tk t' (kp h' k)
theorem maxT_raw (hh : A.handled = none) (hl : s.heap.IsTuple l its.toArray) (hi : IntsAre its ns) (hne : 0 < ns.length)
    (h : ∀ h' tk M t', (∀ b o, s.heap.get? b = some o → h'.get? b = some o) → M ∈ ns → (∀ a, a ∈ ns → a ≤ M) → Q (.int M t') { s with heap := h', toks := tk }) : wpAny (model prog w) A (call (.builtin "max") [.ref l]) Q E s := by
  obtain ⟨xs, e, sz, in1, in2, _⟩ := ints_nth hi
  rw [e] at hl
  obtain ⟨lt, st, fp, kp⟩ := tup_it hl
  have hn : (intItems xs).size = ns.length := by rw [← sz]; simp [intItems]
  refine call_max_walk (wpAny_pyIter_tuple hl ⟨_, _, _, _, _, _, _, rfl, Walks.tuple (A := A.in1) hh _ l (Nat.ne_of_lt lt) (intItems xs), st, fp, by rw [hn]; exact hne, CmpOf.ints_gt (numAt xs) (fun _ _ => intItems_at), fun v h' tk p k => ?_⟩)
  obtain ⟨t, rfl⟩ := intItems_at p
  rw [hn]
  obtain ⟨b1, b2⟩ := argBest_gt (numAt xs) (ns.length - 1)
  obtain ⟨z, z1, z2⟩ := in1 (argBest (fun i j => decide (numAt xs i > numAt xs j)) (ns.length - 1)) (by omega)
  refine h h' tk _ t (kp h' k) (z2 ▸ z1) fun a ha => ?_
  obtain ⟨j, j1, rfl⟩ := in2 a ha
  exact b2 j (by omega)
theorem minT_raw (hh : A.handled = none) (hl : s.heap.IsTuple l its.toArray) (hi : IntsAre its ns) (hne : 0 < ns.length)
    (h : ∀ h' tk M t', (∀ b o, s.heap.get? b = some o → h'.get? b = some o) → M ∈ ns → (∀ a, a ∈ ns → M ≤ a) → Q (.int M t') { s with heap := h', toks := tk }) : wpAny (model prog w) A (call (.builtin "min") [.ref l]) Q E s := by
  obtain ⟨xs, e, sz, in1, in2, _⟩ := ints_nth hi
  rw [e] at hl
  obtain ⟨lt, st, fp, kp⟩ := tup_it hl
  have hn : (intItems xs).size = ns.length := by rw [← sz]; simp [intItems]
  refine call_min_walk (wpAny_pyIter_tuple hl ⟨_, _, _, _, _, _, _, rfl, Walks.tuple (A := A.in1) hh _ l (Nat.ne_of_lt lt) (intItems xs), st, fp, by rw [hn]; exact hne, CmpOf.ints_lt (numAt xs) (fun _ _ => intItems_at), fun v h' tk p k => ?_⟩)
  obtain ⟨t, rfl⟩ := intItems_at p
  rw [hn]
  obtain ⟨b1, b2⟩ := argBest_lt (numAt xs) (ns.length - 1)
  obtain ⟨z, z1, z2⟩ := in1 (argBest (fun i j => decide (numAt xs i < numAt xs j)) (ns.length - 1)) (by omega)
  refine h h' tk _ t (kp h' k) (z2 ▸ z1) fun a ha => ?_
  obtain ⟨j, j1, rfl⟩ := in2 a ha
  exact b2 j (by omega)
end
section
variable {X : Cx}
def rSumT (K : PySem.W.Frag) : List V → Hp → VK → Prop := fun vs H Q => ∃ (a : Addr) (ns : List Int), vs = [V.ref a] ∧ SqT K H a (ns.map V.int) ∧ Q (.int ns.sum) H
def rMaxT (K : PySem.W.Frag) : List V → Hp → VK → Prop := fun vs H Q => ∃ (a : Addr) (ns : List Int), vs = [V.ref a] ∧ SqT K H a (ns.map V.int) ∧ 0 < ns.length ∧ ∀ m, m ∈ ns → (∀ y, y ∈ ns → y ≤ m) → Q (.int m) H
def rMinT (K : PySem.W.Frag) : List V → Hp → VK → Prop := fun vs H Q => ∃ (a : Addr) (ns : List Int), vs = [V.ref a] ∧ SqT K H a (ns.map V.int) ∧ 0 < ns.length ∧ ∀ m, m ∈ ns → (∀ y, y ∈ ns → m ≤ y) → Q (.int m) H
theorem cr_sumT (hc : X.calm = true) : CallR X (.builtin "sum") (rSumT X.K) := by
  intro pins s σ H vs us Q I r h
  obtain ⟨a, ns, rfl, hs, q⟩ := h
  obtain ⟨its, rv, hl, _⟩ := I.tuple hs
  rw [Vals.ref1 r]
  exact sumT_raw (I.ok.hd hc) hl rv.ints fun h' tk t' hk => ⟨.int _, H, I.kept hk, ⟨_, rfl⟩, q⟩
theorem cr_maxT (hc : X.calm = true) : CallR X (.builtin "max") (rMaxT X.K) := by
  intro pins s σ H vs us Q I r h
  obtain ⟨a, ns, rfl, hs, hne, q⟩ := h
  obtain ⟨its, rv, hl, _⟩ := I.tuple hs
  rw [Vals.ref1 r]
  exact maxT_raw (I.ok.hd hc) hl rv.ints hne fun h' tk m t' hk h1 h2 => ⟨.int _, H, I.kept hk, ⟨_, rfl⟩, q m h1 h2⟩
theorem cr_minT (hc : X.calm = true) : CallR X (.builtin "min") (rMinT X.K) := by
  intro pins s σ H vs us Q I r h
  obtain ⟨a, ns, rfl, hs, hne, q⟩ := h
  obtain ⟨its, rv, hl, _⟩ := I.tuple hs
  rw [Vals.ref1 r]
  exact minT_raw (I.ok.hd hc) hl rv.ints hne fun h' tk m t' hk h1 h2 => ⟨.int _, H, I.kept hk, ⟨_, rfl⟩, q m h1 h2⟩
end
section
variable {K : PySem.W.Frag} {H : Hp} {Q : VK} {a : Addr} {ns : List Int}
theorem r_sumT (h : SqT K H a (ns.map V.int)) (q : Q (.int ns.sum) H) : rSumT K [.ref a] H Q := ⟨a, ns, rfl, h, q⟩
theorem r_maxT (h : SqT K H a (ns.map V.int)) (hn : 0 < ns.length) (q : ∀ m, m ∈ ns → (∀ y, y ∈ ns → y ≤ m) → Q (.int m) H) : rMaxT K [.ref a] H Q := ⟨a, ns, rfl, h, hn, q⟩
theorem r_minT (h : SqT K H a (ns.map V.int)) (hn : 0 < ns.length) (q : ∀ m, m ∈ ns → (∀ y, y ∈ ns → m ≤ y) → Q (.int m) H) : rMinT K [.ref a] H Q := ⟨a, ns, rfl, h, hn, q⟩
end
end Sq
end
section
set_option Elab.async false
set_option linter.all false
set_option maxRecDepth 100000
set_option maxHeartbeats 4000000
set_option exponentiation.threshold 500
/-! How often each step is made. -/
namespace Sq
open PySem PyProof.Rows
/-- marks of a kind in runs -/
def kdN (k : Kd) : List Run → Int
  | [] => 0
  | x :: xs => ((x.2.1.ks.filter fun j => decide (j = k)).length : Int) * x.2.2 + kdN k xs
theorem kdN_app (k : Kd) : ∀ a b : List Run, kdN k (a ++ b) = kdN k a + kdN k b
  | [], b => by show kdN k b = 0 + _; omega
  | x :: a, b => by
    show _ + kdN k (a ++ b) = _ + kdN k a + _
    rw [kdN_app k a b]
    omega
theorem kdN_one (k j : Kd) (t : Int) : kdN k [(t, .one j, 1)] = if j = k then 1 else 0 := by
  show (([j].filter fun j => decide (j = k)).length : Int) * 1 + 0 = _
  by_cases h : j = k
  · rw [if_pos h, List.filter_cons_of_pos (by simp [h])]
    rfl
  · rw [if_neg h, List.filter_cons_of_neg (by simp [h])]
    rfl
/-- groups of runs: those that do not begin at the end of the one ahead -/
def grpN (r : Rl) : Option Int → List Run → Int
  | _, [] => 0
  | last, x :: xs => (if (match last with | none => true | some e => decide (e < x.1)) = true then 1 else 0) + grpN r (some (runEnd r x)) xs
theorem grpN_snoc (r : Rl) (y : Run) : ∀ (xs : List Run) (last : Option Int), grpN r last xs ≤ grpN r last (xs ++ [y]) ∧ grpN r last (xs ++ [y]) ≤ grpN r last xs + 1 ∧ (∀ x, xs.getLast? = some x → y.1 = runEnd r x → grpN r last (xs ++ [y]) = grpN r last xs)
  | [], last => by
    refine ⟨?_, ?_, fun x h => by cases h⟩
    · show (0 : Int) ≤ _ + 0
      split <;> omega
    · show _ + (0 : Int) ≤ 0 + 1
      split <;> omega
  | [x], last => by
    obtain ⟨h1, h2, _⟩ := grpN_snoc r y [] (some (runEnd r x))
    refine ⟨?_, ?_, fun z hz e => ?_⟩
    · show _ + grpN r (some (runEnd r x)) [] ≤ _ + grpN r (some (runEnd r x)) ([] ++ [y])
      omega
    · show _ + grpN r (some (runEnd r x)) ([] ++ [y]) ≤ _ + grpN r (some (runEnd r x)) [] + 1
      omega
    · obtain rfl : x = z := by simpa using hz
      show _ + ((if decide (runEnd r x < y.1) = true then 1 else 0) + 0) = _ + (0 : Int)
      rw [e, decide_eq_false (by omega)]
      rfl
  | x :: x2 :: xs, last => by
    obtain ⟨h1, h2, h3⟩ := grpN_snoc r y (x2 :: xs) (some (runEnd r x))
    refine ⟨?_, ?_, fun z hz e => ?_⟩
    · show _ + grpN r (some (runEnd r x)) (x2 :: xs) ≤ _ + grpN r (some (runEnd r x)) (x2 :: xs ++ [y])
      omega
    · show _ + grpN r (some (runEnd r x)) (x2 :: xs ++ [y]) ≤ _ + grpN r (some (runEnd r x)) (x2 :: xs) + 1
      omega
    · rw [List.getLast?_cons_cons] at hz
      show _ + grpN r (some (runEnd r x)) (x2 :: xs ++ [y]) = _ + grpN r (some (runEnd r x)) (x2 :: xs)
      rw [h3 z hz e]
def Rl.remI (r : Rl) : Int := if r.rem = .no then 0 else 1
def Rl.agI (r : Rl) : Int := if r.ag then 1 else 0
def Rl.hearI (r : Rl) (k : Kd) : Int := if r.canHear k && decide (0 < r.d) then 1 else 0
theorem Rl.I_nn (r : Rl) : 0 ≤ r.remI ∧ r.remI ≤ 1 ∧ 0 ≤ r.agI ∧ r.agI ≤ 1 := by
  unfold Rl.remI Rl.agI
  refine ⟨?_, ?_, ?_, ?_⟩ <;> split <;> omega
def act (s : MSt) : Int := match s.kind with
  | none => 0
  | some _ => 1
def pend (s : MSt) : Int := match s.kind with
  | none => 0
  | some k => if s.heard then 0 else s.rules.hearI k
def resv (s : MSt) (j : Kd) : Int := match s.kind with
  | none => 0
  | some k => if j = k then (if s.own then 0 else s.rules.agI) else (if s.other then 0 else s.rules.remI)
def bndR (r : Rl) (xs : List Run) (j : Kd) : Int := r.agI * kdN j xs + r.remI * kdN j.ot xs
def hearR (r : Rl) (xs : List Run) : Int := r.hearI .s * kdN .s xs + r.hearI .l * kdN .l xs
/-- the numbers of the steps of a state whose marks are written one by one -/
structure CI (pr re : Kd → Int) (s : MSt) : Prop where
  b : ∀ k, s.cnt (.begin k) = kdN k s.runs
  p : ∀ k, s.cnt (.press k) = pr k
  r : ∀ k, s.cnt (.release k) = re k
  i : s.cnt .idle + act s ≤ pr .s + pr .l
  g : grpN s.rules none s.runs ≤ s.cnt .idle + act s
  h : s.cnt .hear + pend s = hearR s.rules s.runs
  m : ∀ j, s.cnt (.remember j) + resv s j ≤ bndR s.rules s.runs j
  f : ∀ k, s.kind = some k → s.heard = false → s.other = false ∧ s.own = false ∧ (s.rules.canHear k = true → 0 < s.rules.d)
/-- what is known where a mark is about to begin -/
structure CI0 (pr re : Kd → Int) (s : MSt) (y : Run) : Prop where
  b : ∀ k, s.cnt (.begin k) = kdN k s.runs
  p : ∀ k, s.cnt (.press k) = pr k
  r : ∀ k, s.cnt (.release k) = re k
  i : s.cnt .idle + 1 ≤ pr .s + pr .l
  g : grpN s.rules none (s.runs ++ [y]) ≤ s.cnt .idle + 1
  h : s.cnt .hear = hearR s.rules s.runs
  m : ∀ j, s.cnt (.remember j) ≤ bndR s.rules s.runs j
theorem addC_eq (w : Sw) (n : Int) (c : Sw → Int) : addC w n c w = c w + n := if_pos rfl
theorem addC_ne {w x : Sw} (h : x ≠ w) (n : Int) (c : Sw → Int) : addC w n c x = c x := if_neg h
theorem start_cnt (s : MSt) (t : Int) (k : Kd) : (s.start t k).cnt = if (decide (s.rules.d = 0) && s.rules.canHear k && s.heldOther k) = true then addC (.remember k.ot) 1 (addC (.begin k) 1 s.cnt) else addC (.begin k) 1 s.cnt := by
  unfold MSt.start
  show (if (decide (s.rules.d = 0) && s.rules.canHear k && s.heldOther k) = true then _ else _ : MSt).cnt = _
  split <;> rfl
theorem held_rem {s : MSt} {k : Kd} (h : s.heldOther k = true) : s.rules.remI = 1 := by
  unfold MSt.heldOther at h
  rw [Bool.and_eq_true, Bool.and_eq_true] at h
  have := of_decide_eq_true h.1.1
  unfold Rl.remI
  rw [this]
  rfl
theorem bnd_snoc (r : Rl) (xs : List Run) (t : Int) (k j : Kd) : bndR r (xs ++ [(t, .one k, 1)]) j = bndR r xs j + (if j = k then r.agI else r.remI) := by
  unfold bndR
  rw [kdN_app, kdN_app, kdN_one, kdN_one, Int.mul_add, Int.mul_add]
  cases j <;> cases k <;> simp [Kd.ot] <;> omega
theorem hear_snoc (r : Rl) (xs : List Run) (t : Int) (k : Kd) : hearR r (xs ++ [(t, .one k, 1)]) = hearR r xs + r.hearI k := by
  unfold hearR
  rw [kdN_app, kdN_app, kdN_one, kdN_one, Int.mul_add, Int.mul_add]
  cases k <;> simp <;> omega
theorem Kd.ot_ne2 (k : Kd) : k ≠ k.ot := by cases k <;> simp [Kd.ot]
theorem Kd.two {j k : Kd} (h : j ≠ k) : j = k.ot := Kd.ne_ot h
theorem CI0.start {pr re : Kd → Int} {s : MSt} {t : Int} {k : Kd} (ok : s.rules.Ok) (h : CI0 pr re s (t, .one k, 1)) : CI pr re (s.start t k) := by
  have g := start_f s t k
  have gr := start_runs s t k
  have fr := start_fresh s t k
  have hc := start_cnt s t k
  have hhe := fr.he
  have hot := fr.ot
  have how := fr.ow
  rw [g.rl] at hhe
  have hho : (s.start t k).heldOther k = s.heldOther k := by
    unfold MSt.heldOther
    rw [g.rl, g.d]
  rw [hho, hhe] at hot
  have other : ∀ x : Sw, (∀ j, x ≠ .begin j) → (∀ j, x ≠ .remember j) → (s.start t k).cnt x = s.cnt x := fun x h1 h2 => by
    rw [hc]
    split
    · rw [addC_ne (h2 _), addC_ne (h1 _)]
    · rw [addC_ne (h1 _)]
  have d0 := ok.d0
  refine ⟨fun j => ?_, fun j => ?_, fun j => ?_, ?_, ?_, ?_, fun j => ?_, fun j hj he => ?_⟩
  · rw [gr, kdN_app, kdN_one, hc, ← h.b j]
    have e : addC (.begin k) 1 s.cnt (.begin j) = s.cnt (.begin j) + if k = j then 1 else 0 := by
      by_cases z : k = j
      · rw [z, addC_eq, if_pos rfl]
      · rw [addC_ne (fun y => z (by injection y with y; exact y.symm)), if_neg z]
        omega
    split
    · rw [addC_ne (by intro y; cases y), e]
    · exact e
  · rw [other _ (by intro _ y; cases y) (by intro _ y; cases y)]
    exact h.p j
  · rw [other _ (by intro _ y; cases y) (by intro _ y; cases y)]
    exact h.r j
  · rw [other _ (by intro _ y; cases y) (by intro _ y; cases y)]
    have e : act (s.start t k) = 1 := by unfold act; rw [g.k]
    rw [e]
    exact h.i
  · rw [other _ (by intro _ y; cases y) (by intro _ y; cases y), gr, g.rl]
    have e : act (s.start t k) = 1 := by unfold act; rw [g.k]
    rw [e]
    exact h.g
  · rw [other _ (by intro _ y; cases y) (by intro _ y; cases y), gr, g.rl, hear_snoc, h.h]
    have e : pend (s.start t k) = s.rules.hearI k := by
      unfold pend
      rw [g.k, hhe, g.rl]
      show (if _ then 0 else s.rules.hearI k) = _
      split
      · rename_i z
        rw [Bool.and_eq_true] at z
        have z1 := of_decide_eq_true z.1
        unfold Rl.hearI
        rw [decide_eq_false (by omega), Bool.and_false]
        rfl
      · rfl
    rw [e]
  · rw [gr, g.rl, bnd_snoc, hc]
    have hm := h.m j
    have e : resv (s.start t k) j = if j = k then s.rules.agI else (if (decide (s.rules.d = 0) && s.rules.canHear k && s.heldOther k) = true then 0 else s.rules.remI) := by
      unfold resv
      rw [g.k, how, hot, g.rl]
      rfl
    rw [e]
    by_cases z : j = k
    · rw [if_pos z, if_pos z]
      have e2 : ∀ b : Bool, (if b = true then addC (.remember k.ot) 1 (addC (.begin k) 1 s.cnt) else addC (.begin k) 1 s.cnt) (.remember j) = s.cnt (.remember j) := fun b => by
        have n1 : Sw.remember j ≠ .remember k.ot := fun y => by injection y with y; rw [z] at y; exact Kd.ot_ne2 k y
        split
        · rw [addC_ne n1, addC_ne (by intro y; cases y)]
        · rw [addC_ne (by intro y; cases y)]
      rw [e2]
      omega
    · rw [if_neg z, if_neg z]
      have zo := Kd.two z
      split
      · rename_i hh
        rw [Bool.and_eq_true] at hh
        rw [zo, addC_eq, addC_ne (by intro y; cases y), held_rem hh.2]
        rw [zo] at hm
        omega
      · rw [addC_ne (by intro y; cases y)]
        omega
  · rw [g.k] at hj
    cases hj
    rw [hhe] at he
    refine ⟨by rw [hot, he]; rfl, how, fun c => ?_⟩
    rw [g.rl] at c ⊢
    rw [c, Bool.and_true] at he
    have := of_decide_eq_false he
    omega
section
variable {pr re : Kd → Int} {s : MSt}
theorem resv_nn (s : MSt) (j : Kd) : 0 ≤ resv s j := by
  have := Rl.I_nn s.rules
  unfold resv
  split
  · omega
  · split <;> split <;> omega
/-- the hearing -/
theorem CI.hear {k : Kd} (h : CI pr re s) (hk : s.kind = some k) : CI pr re (heardSt s k) := by
  unfold heardSt
  split
  · rename_i hc
    rw [Bool.and_eq_true] at hc
    have he : s.heard = false := by simpa using hc.2
    obtain ⟨f1, f2, f3⟩ := h.f k hk he
    have fd := f3 hc.1
    have g := hear_f s (s.beg + s.rules.d) k
    have ec : (s.hear (s.beg + s.rules.d) k).cnt = if s.heldOther k = true then addC (.remember k.ot) 1 (addC .hear 1 s.cnt) else addC .hear 1 s.cnt := by
      unfold MSt.hear
      show (if s.heldOther k = true then _ else _ : MSt).cnt = _
      split <;> rfl
    have eh : (s.hear (s.beg + s.rules.d) k).heard = true := by
      unfold MSt.hear
      simp only
      split <;> rfl
    have eo : (s.hear (s.beg + s.rules.d) k).other = s.heldOther k := by
      unfold MSt.hear
      show (if s.heldOther k = true then _ else _ : MSt).other = _
      split
      · rename_i z; rw [z]; rfl
      · rename_i z
        have zz : s.heldOther k = false := by simpa using z
        show s.other = _
        rw [f1, zz]
    have ew : (s.hear (s.beg + s.rules.d) k).own = s.own := by
      unfold MSt.hear
      simp only
      split <;> rfl
    have other : ∀ x : Sw, x ≠ .hear → (∀ j, x ≠ .remember j) → (s.hear (s.beg + s.rules.d) k).cnt x = s.cnt x := fun x h1 h2 => by
      rw [ec]
      split
      · rw [addC_ne (h2 _), addC_ne h1]
      · rw [addC_ne h1]
    have ea : act (s.hear (s.beg + s.rules.d) k) = act s := by unfold act; rw [g.k]
    refine ⟨fun j => ?_, fun j => ?_, fun j => ?_, ?_, ?_, ?_, fun j => ?_, fun j _ z => by rw [eh] at z; cases z⟩
    · rw [other _ (by intro y; cases y) (by intro _ y; cases y), g.r]
      exact h.b j
    · rw [other _ (by intro y; cases y) (by intro _ y; cases y)]
      exact h.p j
    · rw [other _ (by intro y; cases y) (by intro _ y; cases y)]
      exact h.r j
    · rw [other _ (by intro y; cases y) (by intro _ y; cases y), ea]
      exact h.i
    · rw [other _ (by intro y; cases y) (by intro _ y; cases y), ea, g.r, g.rl]
      exact h.g
    · have e1 : pend (s.hear (s.beg + s.rules.d) k) = 0 := by unfold pend; rw [g.k, hk, eh]; rfl
      have e2 : pend s = 1 := by
        unfold pend
        rw [hk, he]
        show s.rules.hearI k = 1
        unfold Rl.hearI
        rw [hc.1, decide_eq_true fd]
        rfl
      have e3 : (s.hear (s.beg + s.rules.d) k).cnt .hear = s.cnt .hear + 1 := by
        rw [ec]
        split
        · rw [addC_ne (by intro y; cases y), addC_eq]
        · rw [addC_eq]
      have := h.h
      rw [e1, e3, g.r, g.rl]
      omega
    · have hm := h.m j
      rw [g.r, g.rl]
      have e1 : resv (s.hear (s.beg + s.rules.d) k) j = if j = k then s.rules.agI else (if s.heldOther k = true then 0 else s.rules.remI) := by
        unfold resv
        rw [g.k, hk, ew, eo, f2, g.rl]
        rfl
      have e2 : resv s j = if j = k then s.rules.agI else s.rules.remI := by
        unfold resv
        rw [hk, f1, f2]
        rfl
      rw [e1, ec]
      rw [e2] at hm
      by_cases z : j = k
      · rw [if_pos z] at hm ⊢
        have n1 : Sw.remember j ≠ .remember k.ot := fun y => by injection y with y; rw [z] at y; exact Kd.ot_ne2 k y
        split
        · rw [addC_ne n1, addC_ne (by intro y; cases y)]; exact hm
        · rw [addC_ne (by intro y; cases y)]; exact hm
      · rw [if_neg z] at hm ⊢
        have zo := Kd.two z
        split
        · rename_i hh
          have := held_rem hh
          rw [zo, addC_eq, addC_ne (by intro y; cases y)]
          rw [zo] at hm
          omega
        · rw [addC_ne (by intro y; cases y)]
          omega
  · exact h
theorem CI.hearTo {k : Kd} {t : Int} (h : CI pr re s) (hk : s.kind = some k) : CI pr re (hearTo t s k) := by
  unfold Sq.hearTo
  split
  · exact h
  · exact h.hear hk
/-- a decision -/
theorem CI.dec {k : Kd} {t : Int} (ok : s.rules.Ok) (mk : MkOk t s) (h : CI pr re s) (hk : s.kind = some k) : CI pr re (s.dec1 k) := by
  have f := heardSt_f s k
  have h1 := h.hear hk
  have hk1 : (heardSt s k).kind = some k := f.k.trans hk
  have hp0 : pend (heardSt s k) = 0 := by
    have key : ((heardSt s k).rules.canHear k && !(heardSt s k).heard) = false := by
      have e := heardSt_idem s k
      cases z : ((heardSt s k).rules.canHear k && !(heardSt s k).heard) with
      | false => rfl
      | true =>
        exfalso
        have e2 : heardSt (heardSt s k) k = (heardSt s k).hear ((heardSt s k).beg + (heardSt s k).rules.d) k := by
          show (if ((heardSt s k).rules.canHear k && !(heardSt s k).heard) = true then _ else _) = _
          rw [if_pos z]
        rw [e2] at e
        have e3 := congrArg MSt.heard e
        have e4 : ((heardSt s k).hear ((heardSt s k).beg + (heardSt s k).rules.d) k).heard = true := by
          unfold MSt.hear
          simp only
          split <;> rfl
        rw [e4] at e3
        rw [← e3] at z
        simp at z
    unfold pend
    rw [hk1]
    show (if (heardSt s k).heard = true then 0 else (heardSt s k).rules.hearI k) = 0
    cases z : (heardSt s k).heard with
    | true => rfl
    | false =>
      rw [z] at key
      have kc : (heardSt s k).rules.canHear k = false := by simpa using key
      unfold Rl.hearI
      rw [kc]
      rfl
  have ha : act (heardSt s k) = 1 := by unfold act; rw [hk1]
  have h1i := h1.i
  have h1g := h1.g
  have h1h := h1.h
  rw [ha] at h1i h1g
  rw [hp0] at h1h
  unfold MSt.dec1 MSt.decide
  cases ho : outcome (heardSt s k).rules k (heardSt s k).down (heardSt s k).other (heardSt s k).own with
  | none =>
    have other : ∀ x : Sw, x ≠ .idle → addC .idle 1 (heardSt s k).cnt x = (heardSt s k).cnt x := fun x z => addC_ne z _ _
    refine ⟨fun j => (other _ (by intro y; cases y)).trans (h1.b j), fun j => (other _ (by intro y; cases y)).trans (h1.p j), fun j => (other _ (by intro y; cases y)).trans (h1.r j), ?_, ?_, ?_, fun j => ?_, fun j z => by cases z⟩
    · show addC .idle 1 (heardSt s k).cnt .idle + 0 ≤ _
      rw [addC_eq]
      omega
    · show grpN _ none _ ≤ addC .idle 1 (heardSt s k).cnt .idle + 0
      rw [addC_eq]
      exact Int.le_trans h1g (by omega)
    · show addC .idle 1 (heardSt s k).cnt .hear + 0 = _
      rw [other _ (by intro y; cases y)]
      exact h1h
    · show addC .idle 1 (heardSt s k).cnt (.remember j) + 0 ≤ _
      rw [other _ (by intro y; cases y)]
      have := h1.m j
      have := resv_nn (heardSt s k) j
      show (heardSt s k).cnt (.remember j) + 0 ≤ bndR (heardSt s k).rules (heardSt s k).runs j
      omega
  | some k' =>
    refine CI0.start (by rw [f.rl]; exact ok) ⟨h1.b, h1.p, h1.r, h1i, ?_, by omega, fun j => by have := h1.m j; have := resv_nn (heardSt s k) j; omega⟩
    obtain ⟨⟨xs, hx⟩, _⟩ := mk.act k hk
    have el : (heardSt s k).runs.getLast? = some (s.beg, .one k, 1) := by rw [f.r, hx]; simp
    rw [(grpN_snoc _ _ _ _).2.2 _ el (by rw [runEnd1, f.rl])]
    exact h1g
def addP (k : Kd) (p : Kd → Int) : Kd → Int := fun j => if j = k then p j + 1 else p j
theorem addP_sum (k : Kd) (p : Kd → Int) : addP k p .s + addP k p .l = p .s + p .l + 1 := by cases k <;> simp [addP] <;> omega
/-- an event -/
theorem CI.happen {t : Int} {k : Kd} {d : Bool} (ok : s.rules.Ok) (h : CI pr re s) : CI (if d then addP k pr else pr) (if d then re else addP k re) (s.happen t k d) := by
  cases d with
  | false =>
    rw [happen_false]
    have other : ∀ x : Sw, (∀ j, x ≠ .release j) → addC (.release k) 1 s.cnt x = s.cnt x := fun x z => addC_ne (z _) _ _
    refine ⟨fun j => (other _ (by intro _ y; cases y)).trans (h.b j), fun j => (other _ (by intro _ y; cases y)).trans (h.p j), fun j => ?_, ?_, ?_, ?_, fun j => ?_, h.f⟩
    · show addC (.release k) 1 s.cnt (.release j) = addP k re j
      unfold addP
      by_cases z : j = k
      · rw [if_pos z, z, addC_eq, h.r]
      · rw [if_neg z, addC_ne (fun y => z (by injection y)), h.r]
    · show addC (.release k) 1 s.cnt .idle + act s ≤ _
      rw [other _ (by intro _ y; cases y)]
      exact h.i
    · show _ ≤ addC (.release k) 1 s.cnt .idle + act s
      rw [other _ (by intro _ y; cases y)]
      exact h.g
    · show addC (.release k) 1 s.cnt .hear + pend s = _
      rw [other _ (by intro _ y; cases y)]
      exact h.h
    · show addC (.release k) 1 s.cnt (.remember j) + resv s j ≤ _
      rw [other _ (by intro _ y; cases y)]
      exact h.m j
  | true =>
    rw [happen_true]
    have other : ∀ x : Sw, (∀ j, x ≠ .press j) → addC (.press k) 1 s.cnt x = s.cnt x := fun x z => addC_ne (z _) _ _
    have hp : ∀ j, addC (.press k) 1 s.cnt (.press j) = addP k pr j := fun j => by
      unfold addP
      by_cases z : j = k
      · rw [if_pos z, z, addC_eq, h.p]
      · rw [if_neg z, addC_ne (fun y => z (by injection y)), h.p]
    have base : CI (addP k pr) re ({ s.note t (.press k) with down := pressDown k s.down } : MSt) := by
      refine ⟨fun j => (other _ (by intro _ y; cases y)).trans (h.b j), hp, fun j => (other _ (by intro _ y; cases y)).trans (h.r j), ?_, ?_, ?_, fun j => ?_, h.f⟩
      · show addC (.press k) 1 s.cnt .idle + act s ≤ _
        rw [other _ (by intro _ y; cases y), addP_sum]
        have := h.i
        omega
      · show _ ≤ addC (.press k) 1 s.cnt .idle + act s
        rw [other _ (by intro _ y; cases y)]
        exact h.g
      · show addC (.press k) 1 s.cnt .hear + pend s = _
        rw [other _ (by intro _ y; cases y)]
        exact h.h
      · show addC (.press k) 1 s.cnt (.remember j) + resv s j ≤ _
        rw [other _ (by intro _ y; cases y)]
        exact h.m j
    have hi0 := h.i
    have hg0 := h.g
    have hh0 := h.h
    show CI (addP k pr) re (hapEnd ({ s.note t (.press k) with down := pressDown k s.down } : MSt) t k)
    generalize hs2 : ({ s.note t (.press k) with down := pressDown k s.down } : MSt) = s2 at base
    have e1 : s2.kind = s.kind := by rw [← hs2]; rfl
    have e2 : s2.rules = s.rules := by rw [← hs2]; rfl
    have e3 : s2.runs = s.runs := by rw [← hs2]; rfl
    have e4 : s2.cnt .idle = s.cnt .idle := by rw [← hs2]; exact other .idle (by intro _ y; cases y)
    unfold hapEnd
    cases hk : s2.kind with
    | none =>
      have ha : act s = 0 := by unfold act; rw [← e1, hk]
      have hp2 : pend s2 = 0 := by unfold pend; rw [hk]
      have b1 := base.h
      rw [hp2] at b1
      rw [ha] at hi0 hg0
      refine CI0.start (by rw [e2]; exact ok) ⟨base.b, base.p, base.r, ?_, ?_, by omega, fun j => by have := base.m j; have := resv_nn s2 j; omega⟩
      · rw [addP_sum, e4]
        omega
      · have := (grpN_snoc s2.rules (t, .one k, 1) s2.runs none).2.1
        rw [e2, e3] at this ⊢
        rw [e4]
        omega
    | some k' =>
      have ha2 : act s2 = 1 := by unfold act; rw [hk]
      have hp2 : pend s2 = if s2.heard then 0 else s2.rules.hearI k' := by unfold pend; rw [hk]
      have bi := base.i
      have bg := base.g
      have bh := base.h
      rw [ha2] at bi bg
      rw [hp2] at bh
      dsimp only
      split
      · rename_i hc
        simp only [Bool.and_eq_true, decide_eq_true_eq, Bool.not_eq_true'] at hc
        obtain ⟨⟨⟨c1, c2⟩, c3⟩, c4⟩ := hc
        have other2 : ∀ x : Sw, (∀ j, x ≠ .remember j) → addC (.remember k) 1 s2.cnt x = s2.cnt x := fun x z => addC_ne (z _) _ _
        refine ⟨fun j => (other2 _ (by intro _ y; cases y)).trans (base.b j), fun j => (other2 _ (by intro _ y; cases y)).trans (base.p j), fun j => (other2 _ (by intro _ y; cases y)).trans (base.r j), ?_, ?_, ?_, fun j => ?_, fun j _ z => ?_⟩
        · show addC (.remember k) 1 s2.cnt .idle + 1 ≤ _
          rw [other2 _ (by intro _ y; cases y)]
          exact bi
        · show grpN s2.rules none s2.runs ≤ addC (.remember k) 1 s2.cnt .idle + 1
          rw [other2 _ (by intro _ y; cases y)]
          exact bg
        · show addC (.remember k) 1 s2.cnt .hear + (if s2.heard then 0 else s2.rules.hearI k') = hearR s2.rules s2.runs
          rw [other2 _ (by intro _ y; cases y)]
          exact bh
        · have hm := base.m j
          show addC (.remember k) 1 s2.cnt (.remember j) + (if j = k' then (if true = true then 0 else s2.rules.agI) else (if s2.other then 0 else s2.rules.remI)) ≤ bndR s2.rules s2.runs j
          unfold resv at hm
          rw [hk] at hm
          dsimp only at hm
          have hag : s2.rules.agI = 1 := by unfold Rl.agI; rw [c3]; rfl
          by_cases z : j = k'
          · rw [if_pos z] at hm ⊢
            rw [c4, hag] at hm
            rw [if_neg (by simp)] at hm
            rw [if_pos rfl, z, ← c2, addC_eq]
            rw [z, ← c2] at hm
            omega
          · rw [if_neg z] at hm ⊢
            rw [addC_ne (fun y => z (by injection y with y; rw [y, c2]))]
            exact hm
        · have z2 : s2.heard = false := z
          rw [c1] at z2
          cases z2
      · split
        · rename_i hc
          simp only [Bool.and_eq_true, decide_eq_true_eq, Bool.not_eq_true'] at hc
          obtain ⟨⟨⟨c1, c2⟩, c3⟩, c4⟩ := hc
          have ek : k = k'.ot := Kd.two c2
          have ha3 : act (s2.noteOther t k') = 1 := by
            show (match s2.kind with | none => (0 : Int) | some _ => 1) = 1
            rw [hk]
          have hp3 : pend (s2.noteOther t k') = if s2.heard then 0 else s2.rules.hearI k' := by
            show (match s2.kind with | none => (0 : Int) | some k => if s2.heard then 0 else s2.rules.hearI k) = _
            rw [hk]
          have hr3 : ∀ j, resv (s2.noteOther t k') j = if j = k' then (if s2.own then 0 else s2.rules.agI) else 0 := fun j => by
            show (match s2.kind with | none => (0 : Int) | some k => if j = k then (if s2.own then 0 else s2.rules.agI) else (if true = true then 0 else s2.rules.remI)) = _
            rw [hk]
            rfl
          have other2 : ∀ x : Sw, (∀ j, x ≠ .remember j) → addC (.remember k'.ot) 1 s2.cnt x = s2.cnt x := fun x z => addC_ne (z _) _ _
          refine ⟨fun j => (other2 _ (by intro _ y; cases y)).trans (base.b j), fun j => (other2 _ (by intro _ y; cases y)).trans (base.p j), fun j => (other2 _ (by intro _ y; cases y)).trans (base.r j), ?_, ?_, ?_, fun j => ?_, fun j _ z => ?_⟩
          · rw [ha3]
            show addC (.remember k'.ot) 1 s2.cnt .idle + 1 ≤ _
            rw [other2 _ (by intro _ y; cases y)]
            exact bi
          · rw [ha3]
            show grpN s2.rules none s2.runs ≤ addC (.remember k'.ot) 1 s2.cnt .idle + 1
            rw [other2 _ (by intro _ y; cases y)]
            exact bg
          · rw [hp3]
            show addC (.remember k'.ot) 1 s2.cnt .hear + (if s2.heard then 0 else s2.rules.hearI k') = hearR s2.rules s2.runs
            rw [other2 _ (by intro _ y; cases y)]
            exact bh
          · have hm := base.m j
            rw [hr3]
            show addC (.remember k'.ot) 1 s2.cnt (.remember j) + (if j = k' then (if s2.own then 0 else s2.rules.agI) else 0) ≤ bndR s2.rules s2.runs j
            unfold resv at hm
            rw [hk] at hm
            dsimp only at hm
            have hrm : s2.rules.remI = 1 := by unfold Rl.remI; rw [if_neg c3]
            by_cases z : j = k'
            · rw [if_pos z] at hm ⊢
              rw [addC_ne (fun y => by injection y with y; rw [z] at y; exact Kd.ot_ne2 k' y)]
              exact hm
            · rw [if_neg z] at hm ⊢
              have zo := Kd.two z
              rw [c4, hrm] at hm
              rw [if_neg (by simp)] at hm
              rw [zo, addC_eq]
              rw [zo] at hm
              omega
          · have z2 : s2.heard = false := z
            rw [c1] at z2
            cases z2
        · exact base
end
theorem ci_new (r : Rl) (lg : Bool) : CI (fun _ => 0) (fun _ => 0) (MSt.new r lg) := by
  refine ⟨fun _ => rfl, fun _ => rfl, fun _ => rfl, Int.le_refl _, Int.le_refl _, ?_, fun j => ?_, fun k z => by cases z⟩
  · show (0 : Int) + 0 = _ * 0 + _ * 0
    simp
  · show (0 : Int) + 0 ≤ _ * 0 + _ * 0
    simp
end Sq
end
section
set_option Elab.async false
set_option linter.all false
set_option maxRecDepth 100000
set_option maxHeartbeats 4000000
set_option exponentiation.threshold 500
/-! Records decision by decision; the steps one by one. -/
namespace Sq
open PySem PyProof.Rows
/-- up to rest, at most n decisions -/
inductive RestN : Nat → MSt → MSt → Prop
  | idle {n : Nat} {s : MSt} (h : s.kind = none) : RestN n s s
  | go {n : Nat} {s s' : MSt} {k : Kd} (h : s.kind = some k) (m : RestN n (s.dec1 k) s') : RestN (n + 1) s s'
inductive Hist (n : Nat) : MSt → List Ev → MSt → Prop
  | nil {s a : MSt} (h : RestN n s a) : Hist n s [] a
  | cons {s x a : MSt} {t : Int} {k : Kd} {d : Bool} {es : List Ev} (h : Slow t s x) (m : Hist n (x.happen t k d) es a) : Hist n s ((t, k, d) :: es) a
theorem RestN.rest {n : Nat} {s a : MSt} (h : RestN n s a) : Rest1 s a := by
  induction h with
  | idle h => exact .idle h
  | go h _ ih => exact .go h ih
theorem dec1_stable {s : MSt} (ok : s.rules.Ok) (k : Kd) : Stable (s.beg + s.rules.per k) (s.dec1 k) := by
  have f := heardSt_f s k
  unfold MSt.dec1 MSt.decide
  split
  · intro j hj
    cases hj
  · exact start_stable (by rw [f.rl]; exact ok) _ _
theorem slow_own {s x : MSt} {k : Kd} (ok : s.rules.Ok) (hk : s.kind = some k) (h : Slow (s.beg + s.rules.per k) s x) : x = s.dec1 k := by
  cases h with
  | idle h => rw [h] at hk; cases hk
  | stop h l => rw [h] at hk; cases hk; omega
  | go h l n =>
    rw [h] at hk
    cases hk
    exact n.det (dec1_stable ok k).slow
theorem fin_restN {n : Nat} {s s' : MSt} (h : FinR n s s') : s.rules.Ok → s.logged = false → RestN n (nf s) (nf s') := by
  induction h with
  | done h => exact fun _ _ => .idle h
  | @go n m st st' k hk a _ ih =>
    intro ok hl
    have k1 : Kept st (advGo m (st.beg + st.rules.per k) st) := (adv_f ok).kp
    have e : nf (advGo m (st.beg + st.rules.per k) st) = (nf st).dec1 k := slow_own (s := nf st) ok hk (adv_slow ok hl a)
    have := ih (by rw [k1.rl]; exact ok) (k1.lg.trans hl)
    rw [e] at this
    exact .go hk this
def AdvAll : MSt → List Ev → Prop
  | _, [] => True
  | u, e :: es => AdvOk 2000 e.1 u ∧ AdvAll (u.ev e) es
theorem ev_kept {u : MSt} (ok : u.rules.Ok) (hl : u.logged = false) (e : Ev) : (u.ev e).rules = u.rules ∧ (u.ev e).logged = false := by
  have k1 : Kept u (u.adv e.1) := (adv_f ok).kp
  have f := hap_f (u.adv e.1) e.1 e.2.1 e.2.2
  exact ⟨f.rl.trans k1.rl, f.lg.trans (k1.lg.trans hl)⟩
theorem hist_un {n : Nat} : ∀ {es : List Ev} {u : MSt}, u.rules.Ok → u.logged = false → AdvAll u es → FinR n (u.evs es) (u.evs es).fin → Hist n (nf u) es (nf (u.evs es).fin)
  | [], u, ok, hl, _, f => .nil (fin_restN f ok hl)
  | (t, k, d) :: es, u, ok, hl, a, f => by
    obtain ⟨e1, e2⟩ := ev_kept ok hl (t, k, d)
    have ih := hist_un (es := es) (u := u.ev (t, k, d)) (by rw [e1]; exact ok) e2 a.2 f
    refine .cons (adv_slow ok hl a.1) ?_
    have e3 : nf (u.ev (t, k, d)) = (nf (u.adv t)).happen t k d := nf_happen ..
    rw [e3] at ih
    exact ih
/-! ### the numbers of steps -/
def evN (k : Kd) (b : Bool) : List Ev → Int
  | [] => 0
  | e :: es => (if e.2.1 = k ∧ e.2.2 = b then 1 else 0) + evN k b es
theorem slow_ci {pr re : Kd → Int} {u : Int} {s a : MSt} (g : Slow u s a) : ∀ {t : Int}, s.rules.Ok → MkOk t s → t ≤ u → CI pr re s → CI pr re a := by
  induction g with
  | idle h => exact fun _ _ _ c => c
  | stop h _ => exact fun _ _ _ c => c.hearTo h
  | go h l n ih =>
    intro t ok m tu c
    obtain ⟨m1, _, _, _, e3, _⟩ := m.dec ok h l tu
    exact ih (by rw [e3]; exact ok) m1 (Int.le_refl _) (c.dec ok m h)
theorem rest_ci {pr re : Kd → Int} {n : Nat} {s a : MSt} (g : RestN n s a) : ∀ {t : Int}, s.rules.Ok → MkOk t s → CI pr re s → CI pr re a := by
  induction g with
  | idle h => exact fun _ _ c => c
  | @go n s s' k h _ ih =>
    intro t ok m c
    obtain ⟨u, tu, l⟩ : ∃ u : Int, t ≤ u ∧ s.beg + s.rules.per k ≤ u := by
      rcases Int.le_total t (s.beg + s.rules.per k) with z | z
      · exact ⟨_, z, Int.le_refl _⟩
      · exact ⟨t, Int.le_refl _, z⟩
    obtain ⟨m1, _, _, _, e3, _⟩ := m.dec ok h l tu
    exact ih (by rw [e3]; exact ok) m1 (c.dec ok m h)
/-- ticks that go on, from a tick on -/
def Asc : Int → List Ev → Prop
  | _, [] => True
  | t, e :: es => t ≤ e.1 ∧ Asc e.1 es
theorem hist_ci {n : Nat} {s a : MSt} {es : List Ev} (g : Hist n s es a) : ∀ {t : Int} {pr re : Kd → Int}, s.rules.Ok → MkOk t s → Asc t es → CI pr re s → CI (fun k => pr k + evN k true es) (fun k => re k + evN k false es) a ∧ a.rules = s.rules ∧ a.kind = none ∧ ∃ u, MkOk u a := by
  induction g with
  | nil h =>
    intro t pr re ok m _ c
    obtain ⟨m1, e, z, _⟩ := MkOk.rest h.rest ok m
    have c2 := rest_ci h ok m c
    refine ⟨?_, e, z, m1⟩
    simp only [evN, Int.add_zero]
    exact c2
  | @cons s x a t' k d es h _ ih =>
    intro t pr re ok m asc c
    obtain ⟨m1, e, _⟩ := MkOk.slow h ok m asc.1
    have c1 := slow_ci h ok m asc.1 c
    have okx : x.rules.Ok := by rw [e]; exact ok
    have c2 := c1.happen (t := t') (k := k) (d := d) okx
    have f := hap_f x t' k d
    obtain ⟨c3, e3, r3, r4⟩ := ih (t := t') (by rw [f.rl]; exact okx) m1.happen asc.2 c2
    refine ⟨?_, e3.trans (f.rl.trans e), r3, r4⟩
    have p1 : ∀ j, (if d = true then addP k pr else pr) j + evN j true es = pr j + evN j true ((t', k, d) :: es) := fun j => by
      show _ = pr j + ((if k = j ∧ d = true then 1 else 0) + _)
      cases d with
      | true =>
        show addP k pr j + _ = _
        unfold addP
        by_cases z : j = k
        · rw [if_pos z, if_pos ⟨z.symm, rfl⟩]; omega
        · rw [if_neg z, if_neg fun y => z y.1.symm]; omega
      | false =>
        rw [if_neg (by simp), if_neg (by simp)]
        omega
    have p2 : ∀ j, (if d = true then re else addP k re) j + evN j false es = re j + evN j false ((t', k, d) :: es) := fun j => by
      show _ = re j + ((if k = j ∧ d = false then 1 else 0) + _)
      cases d with
      | false =>
        show addP k re j + _ = _
        unfold addP
        by_cases z : j = k
        · rw [if_pos z, if_pos ⟨z.symm, rfl⟩]; omega
        · rw [if_neg z, if_neg fun y => z y.1.symm]; omega
      | true =>
        rw [if_pos rfl, if_neg (by simp)]
        omega
    rw [funext p1, funext p2] at c3
    exact c3
/-! ### without the log -/
def er (s : MSt) : MSt := { s with logged := false, log := [] }
theorem er_hear (s : MSt) (t : Int) (k : Kd) : er (s.hear t k) = (er s).hear t k := by
  unfold MSt.hear
  show er (if s.heldOther k then _ else _) = (if s.heldOther k then _ else _)
  split <;> rfl
theorem er_heardSt (s : MSt) (k : Kd) : er (heardSt s k) = heardSt (er s) k := by
  unfold heardSt
  show er (if s.rules.canHear k && !s.heard then _ else _) = (if s.rules.canHear k && !s.heard then _ else _)
  split
  · exact er_hear _ _ _
  · rfl
theorem er_start (s : MSt) (t : Int) (k : Kd) : er (s.start t k) = (er s).start t k := by
  unfold MSt.start
  show er (if (decide (s.rules.d = 0) && s.rules.canHear k) && s.heldOther k then _ else _) = (if (decide (s.rules.d = 0) && s.rules.canHear k) && s.heldOther k then _ else _)
  split <;> rfl
theorem er_decide (s : MSt) (t : Int) (k : Kd) : er (s.decide t k) = (er s).decide t k := by
  unfold MSt.decide
  show er (match outcome s.rules k s.down s.other s.own with | none => _ | some k' => _) = (match outcome s.rules k s.down s.other s.own with | none => _ | some k' => _)
  split
  · rfl
  · exact er_start _ _ _
theorem er_dec1 (s : MSt) (k : Kd) : er (s.dec1 k) = (er s).dec1 k := by
  unfold MSt.dec1
  rw [er_decide, er_heardSt]
  rfl
theorem er_hearTo (t : Int) (s : MSt) (k : Kd) : er (hearTo t s k) = hearTo t (er s) k := by
  unfold hearTo
  show er (if s.rules.canHear k && !s.heard && decide (t < s.beg + s.rules.d) then _ else _) = (if s.rules.canHear k && !s.heard && decide (t < s.beg + s.rules.d) then _ else _)
  split
  · rfl
  · exact er_heardSt _ _
theorem er_happen (s : MSt) (t : Int) (k : Kd) (dn : Bool) : er (s.happen t k dn) = (er s).happen t k dn := by
  cases dn with
  | false => rw [happen_false, happen_false]; rfl
  | true =>
    rw [happen_true, happen_true]
    unfold hapEnd
    show er (match s.kind with | none => _ | some k' => _) = (match s.kind with | none => _ | some k' => _)
    split
    · exact er_start _ _ _
    · rename_i k' hk
      show er (if s.heard && decide (k = k') && s.rules.ag && !s.own then _ else if s.heard && decide (k ≠ k') && decide (s.rules.rem ≠ .no) && !s.other then _ else _) = (if s.heard && decide (k = k') && s.rules.ag && !s.own then _ else if s.heard && decide (k ≠ k') && decide (s.rules.rem ≠ .no) && !s.other then _ else _)
      split
      · rfl
      · split <;> rfl
theorem lift_slow {t : Int} {b b' : MSt} (h : Slow t b b') : ∀ s, er s = b → ∃ a, Slow t s a ∧ er a = b' := by
  induction h with
  | idle h => exact fun s e => ⟨s, .idle (by rw [← e] at h; exact h), e⟩
  | stop h l =>
    intro s e
    subst e
    exact ⟨_, .stop h l, er_hearTo _ _ _⟩
  | go h l n ih =>
    intro s e
    subst e
    obtain ⟨a, h1, h2⟩ := ih _ (er_dec1 _ _)
    exact ⟨a, .go h l h1, h2⟩
theorem lift_rest {n : Nat} {b b' : MSt} (h : RestN n b b') : ∀ s, er s = b → ∃ a, RestN n s a ∧ er a = b' := by
  induction h with
  | idle h => exact fun s e => ⟨s, .idle (by rw [← e] at h; exact h), e⟩
  | go h n ih =>
    intro s e
    subst e
    obtain ⟨a, h1, h2⟩ := ih _ (er_dec1 _ _)
    exact ⟨a, .go h h1, h2⟩
theorem lift_hist {n : Nat} {b b' : MSt} {es : List Ev} (h : Hist n b es b') : ∀ s, er s = b → ∃ a, Hist n s es a ∧ er a = b' := by
  induction h with
  | nil h =>
    intro s e
    obtain ⟨a, h1, h2⟩ := lift_rest h s e
    exact ⟨a, .nil h1, h2⟩
  | cons h _ ih =>
    intro s e
    obtain ⟨x, h1, h2⟩ := lift_slow h s e
    obtain ⟨a, h3, h4⟩ := ih (x.happen _ _ _) (by rw [er_happen, h2])
    exact ⟨a, .cons h1 h3, h4⟩
end Sq
end
section
set_option Elab.async false
set_option linter.all false
set_option maxRecDepth 100000
set_option maxHeartbeats 4000000
set_option exponentiation.threshold 500
/-! The steps one by one. -/
namespace Sq
open PySem PyProof.Rows
def beginOf (e : Int × Sw) : Option Run := match e.2 with
  | .begin k => some (e.1, .one k, 1)
  | _ => none
def begins (l : List (Int × Sw)) : List Run := l.filterMap beginOf
theorem begins_app (a b : List (Int × Sw)) : begins (a ++ b) = begins a ++ begins b := List.filterMap_append ..
def csumS (c : Sw → Int) : Int := (allSw.map c).sum
theorem csum_add (w : Sw) (c : Sw → Int) : csumS (addC w 1 c) = csumS c + 1 := by
  cases w with
  | press k => cases k <;> (simp [csumS, allSw, addC]; omega)
  | release k => cases k <;> (simp [csumS, allSw, addC]; omega)
  | «begin» k => cases k <;> (simp [csumS, allSw, addC]; omega)
  | hear => simp [csumS, allSw, addC]; omega
  | remember k => cases k <;> (simp [csumS, allSw, addC]; omega)
  | idle => simp [csumS, allSw, addC]; omega
structure LI (s : MSt) : Prop where
  lg : s.logged = true
  bg : begins s.log = s.runs
  ln : (s.log.length : Int) = csumS s.cnt
/-- the log goes on -/
structure Grow (s a : MSt) : Prop where
  l : ∃ ys, a.log = s.log ++ ys
  r : s.runs.length ≤ a.runs.length
  d : a.down = s.down
theorem Grow.refl (s : MSt) : Grow s s := ⟨⟨[], (List.append_nil _).symm⟩, Nat.le_refl _, rfl⟩
theorem Grow.trans {a b c : MSt} (h : Grow a b) (g : Grow b c) : Grow a c := by
  obtain ⟨ys, e1⟩ := h.l
  obtain ⟨zs, e2⟩ := g.l
  exact ⟨⟨ys ++ zs, by rw [e2, e1, List.append_assoc]⟩, Nat.le_trans h.r g.r, g.d.trans h.d⟩
theorem Grow.len {a b : MSt} (h : Grow a b) : a.log.length ≤ b.log.length := by
  obtain ⟨ys, e⟩ := h.l
  rw [e, List.length_append]
  omega
theorem note_log {s : MSt} (h : s.logged = true) (t : Int) (w : Sw) : (s.note t w).log = s.log ++ [(t, w)] := by
  unfold MSt.note
  show (if s.logged = true then _ else _) = _
  rw [if_pos h]
theorem LI.note {s : MSt} {t : Int} {w : Sw} (h : LI s) (hw : beginOf (t, w) = none) : LI (s.note t w) := by
  refine ⟨h.lg, ?_, ?_⟩
  · rw [note_log h.lg, begins_app, h.bg]
    show s.runs ++ [(t, w)].filterMap beginOf = s.runs
    rw [List.filterMap_cons_none hw, List.filterMap_nil, List.append_nil]
  · rw [note_log h.lg, List.length_append]
    show ((s.log.length + 1 : Nat) : Int) = csumS (addC w 1 s.cnt)
    rw [csum_add, ← h.ln]
    omega
theorem note_grow {s : MSt} (h : s.logged = true) (t : Int) (w : Sw) : Grow s (s.note t w) := ⟨⟨_, note_log h t w⟩, Nat.le_refl _, rfl⟩
theorem LI.start {s : MSt} {t : Int} {k : Kd} (h : LI s) : LI (s.start t k) ∧ (∃ ys, (s.start t k).log = s.log ++ (t, .begin k) :: ys) ∧ s.runs.length ≤ (s.start t k).runs.length := by
  have e1 : (MSt.note { s with kind := some k, beg := t, other := false, own := false, heard := decide (s.rules.d = 0) && s.rules.canHear k, runs := s.runs ++ [(t, Wd.one k, 1)] } t (.begin k)).log = s.log ++ [(t, .begin k)] := note_log (s := { s with kind := some k, beg := t, other := false, own := false, heard := decide (s.rules.d = 0) && s.rules.canHear k, runs := s.runs ++ [(t, Wd.one k, 1)] }) h.lg _ _
  have key : LI (MSt.note { s with kind := some k, beg := t, other := false, own := false, heard := decide (s.rules.d = 0) && s.rules.canHear k, runs := s.runs ++ [(t, Wd.one k, 1)] } t (.begin k)) := by
    refine ⟨h.lg, ?_, ?_⟩
    · rw [e1, begins_app, h.bg]
      rfl
    · rw [e1, List.length_append]
      show ((s.log.length + 1 : Nat) : Int) = csumS (addC (.begin k) 1 s.cnt)
      rw [csum_add, ← h.ln]
      omega
  have gr := start_runs s t k
  refine ⟨?_, ?_, by rw [gr, List.length_append]; omega⟩
  · unfold MSt.start
    simp only
    split
    · exact LI.note (s := { MSt.note { s with kind := some k, beg := t, other := false, own := false, heard := decide (s.rules.d = 0) && s.rules.canHear k, runs := s.runs ++ [(t, Wd.one k, 1)] } t (.begin k) with other := true }) ⟨key.lg, key.bg, key.ln⟩ rfl
    · exact key
  · unfold MSt.start
    simp only
    split
    · refine ⟨[(t, .remember k.ot)], ?_⟩
      show (MSt.note { MSt.note { s with kind := some k, beg := t, other := false, own := false, heard := decide (s.rules.d = 0) && s.rules.canHear k, runs := s.runs ++ [(t, Wd.one k, 1)] } t (.begin k) with other := true } t (.remember k.ot)).log = _
      rw [note_log (by exact h.lg)]
      show (MSt.note { s with kind := some k, beg := t, other := false, own := false, heard := decide (s.rules.d = 0) && s.rules.canHear k, runs := s.runs ++ [(t, Wd.one k, 1)] } t (.begin k)).log ++ _ = _
      rw [e1, List.append_assoc]
      rfl
    · exact ⟨[], e1⟩
theorem LI.hear {s : MSt} {k : Kd} (h : LI s) : LI (heardSt s k) ∧ Grow s (heardSt s k) := by
  unfold heardSt
  split
  · have f := hear_f s (s.beg + s.rules.d) k
    have h1 : LI (({ s with heard := true } : MSt).note (s.beg + s.rules.d) .hear) := LI.note (s := { s with heard := true }) ⟨h.lg, h.bg, h.ln⟩ rfl
    have e1 : (({ s with heard := true } : MSt).note (s.beg + s.rules.d) .hear).log = s.log ++ [(s.beg + s.rules.d, .hear)] := note_log (s := { s with heard := true }) h.lg _ _
    constructor
    · unfold MSt.hear
      simp only
      split
      · exact LI.note (s := { ({ s with heard := true } : MSt).note (s.beg + s.rules.d) .hear with other := true }) ⟨h1.lg, h1.bg, h1.ln⟩ rfl
      · exact h1
    · refine ⟨?_, by rw [f.r]; exact Nat.le_refl _, f.d⟩
      unfold MSt.hear
      simp only
      split
      · refine ⟨[(s.beg + s.rules.d, .hear), (s.beg + s.rules.d, .remember k.ot)], ?_⟩
        show (MSt.note { ({ s with heard := true } : MSt).note (s.beg + s.rules.d) .hear with other := true } (s.beg + s.rules.d) (.remember k.ot)).log = _
        rw [note_log (by exact h.lg)]
        show (({ s with heard := true } : MSt).note (s.beg + s.rules.d) .hear).log ++ _ = _
        rw [e1, List.append_assoc]
        rfl
      · exact ⟨_, e1⟩
  · exact ⟨h, .refl s⟩
theorem LI.hearTo {s : MSt} {k : Kd} {t : Int} (h : LI s) : LI (hearTo t s k) ∧ Grow s (hearTo t s k) := by
  unfold Sq.hearTo
  split
  · exact ⟨h, .refl s⟩
  · exact h.hear
/-- the last step of an idle keyer -/
def LA (s : MSt) : Prop := s.kind = none → (s.log = [] ∧ s.runs = []) ∨ ∃ w, s.runs.getLast? = some w ∧ s.log.getLast? = some (runEnd s.rules w, .idle)
theorem LI.dec {s : MSt} {k : Kd} {t : Int} (mk : MkOk t s) (h : LI s) (hk : s.kind = some k) : LI (s.dec1 k) ∧ Grow s (s.dec1 k) ∧ s.log.length + 1 ≤ (s.dec1 k).log.length ∧ LA (s.dec1 k) := by
  have f := heardSt_f s k
  obtain ⟨h1, g1⟩ := h.hear (k := k)
  obtain ⟨⟨xs, hx⟩, _⟩ := mk.act k hk
  have el : (heardSt s k).runs.getLast? = some (s.beg, .one k, 1) := by rw [f.r, hx]; simp
  have gl := g1.len
  unfold MSt.dec1 MSt.decide
  cases ho : outcome (heardSt s k).rules k (heardSt s k).down (heardSt s k).other (heardSt s k).own with
  | none =>
    have e1 : (MSt.note { heardSt s k with kind := none, other := false, own := false } (s.beg + s.rules.per k) .idle).log = (heardSt s k).log ++ [(s.beg + s.rules.per k, .idle)] := note_log (s := { heardSt s k with kind := none, other := false, own := false }) h1.lg _ _
    refine ⟨LI.note (s := { heardSt s k with kind := none, other := false, own := false }) ⟨h1.lg, h1.bg, h1.ln⟩ rfl, g1.trans ⟨⟨_, e1⟩, Nat.le_refl _, rfl⟩, ?_, fun _ => .inr ⟨_, el, ?_⟩⟩
    · rw [e1, List.length_append]
      show _ ≤ _ + 1
      omega
    · rw [e1, List.getLast?_concat, runEnd1]
      show some (s.beg + s.rules.per k, Sw.idle) = some (s.beg + (heardSt s k).rules.per k, Sw.idle)
      rw [f.rl]
  | some k' =>
    obtain ⟨h2, ⟨ys, e2⟩, r2⟩ := h1.start (t := s.beg + s.rules.per k) (k := k')
    have g := start_f (heardSt s k) (s.beg + s.rules.per k) k'
    refine ⟨h2, g1.trans ⟨⟨_, e2⟩, r2, g.d⟩, ?_, fun z => ?_⟩
    · show _ ≤ ((heardSt s k).start (s.beg + s.rules.per k) k').log.length
      rw [e2, List.length_append, List.length_cons]
      omega
    · have z2 : ((heardSt s k).start (s.beg + s.rules.per k) k').kind = none := z
      rw [g.k] at z2
      cases z2
theorem slow_li {u : Int} {s a : MSt} (g : Slow u s a) : ∀ {t : Int}, s.rules.Ok → MkOk t s → t ≤ u → LI s → LA s → LI a ∧ LA a ∧ Grow s a := by
  induction g with
  | idle h => exact fun _ _ _ l la => ⟨l, la, .refl _⟩
  | stop h _ =>
    intro t ok m tu l la
    obtain ⟨h1, h2⟩ := l.hearTo (k := _) (t := u)
    exact ⟨h1, fun z => (by rw [(hearTo_f _ _ _).k, h] at z; cases z), h2⟩
  | go h l n ih =>
    intro t ok m tu li la
    obtain ⟨m1, _, _, _, e3, _⟩ := m.dec ok h l tu
    obtain ⟨l1, g1, _, la1⟩ := li.dec m h
    obtain ⟨l2, la2, g2⟩ := ih (by rw [e3]; exact ok) m1 (Int.le_refl _) l1 la1
    exact ⟨l2, la2, g1.trans g2⟩
theorem rest_li {n : Nat} {s a : MSt} (g : RestN n s a) : ∀ {t : Int}, s.rules.Ok → MkOk t s → LI s → LA s → LI a ∧ LA a ∧ Grow s a := by
  induction g with
  | idle h => exact fun _ _ l la => ⟨l, la, .refl _⟩
  | @go n s s' k h _ ih =>
    intro t ok m li la
    obtain ⟨u, tu, l⟩ : ∃ u : Int, t ≤ u ∧ s.beg + s.rules.per k ≤ u := by
      rcases Int.le_total t (s.beg + s.rules.per k) with z | z
      · exact ⟨_, z, Int.le_refl _⟩
      · exact ⟨t, Int.le_refl _, z⟩
    obtain ⟨m1, _, _, _, e3, _⟩ := m.dec ok h l tu
    obtain ⟨l1, g1, _, la1⟩ := li.dec m h
    obtain ⟨l2, la2, g2⟩ := ih (by rw [e3]; exact ok) m1 l1 la1
    exact ⟨l2, la2, g1.trans g2⟩
theorem LI.happen {s : MSt} {t : Int} {k : Kd} {d : Bool} (mk : MkOk t s) (h : LI s) (hv : d = false → k ∈ s.down) : LI (s.happen t k d) ∧ LA (s.happen t k d) ∧ (∃ ys, (s.happen t k d).log = s.log ++ ys) ∧ s.runs.length ≤ (s.happen t k d).runs.length := by
  cases d with
  | false =>
    rw [happen_false]
    have h1 := h.note (t := t) (w := .release k) rfl
    refine ⟨⟨h1.lg, h1.bg, h1.ln⟩, fun z => ?_, ⟨_, note_log h.lg _ _⟩, Nat.le_refl _⟩
    have z2 : s.kind = none := z
    have := (mk.idle z2).1
    have := hv rfl
    simp_all
  | true =>
    rw [happen_true]
    have h1 := h.note (t := t) (w := .press k) rfl
    have h2 : LI ({ s.note t (.press k) with down := pressDown k s.down } : MSt) := ⟨h1.lg, h1.bg, h1.ln⟩
    have e2 : ({ s.note t (.press k) with down := pressDown k s.down } : MSt).log = s.log ++ [(t, .press k)] := note_log h.lg _ _
    have e3 : ({ s.note t (.press k) with down := pressDown k s.down } : MSt).runs = s.runs := rfl
    generalize ({ s.note t (.press k) with down := pressDown k s.down } : MSt) = s2 at *
    unfold hapEnd
    cases hk : s2.kind with
    | none =>
      obtain ⟨h3, ⟨ys, e4⟩, r3⟩ := h2.start (t := t) (k := k)
      refine ⟨h3, fun z => ?_, ⟨_, by rw [e4, e2, List.append_assoc]⟩, by rw [← e3]; exact r3⟩
      have z2 : (s2.start t k).kind = none := z
      rw [(start_f s2 t k).k] at z2
      cases z2
    | some k' =>
      dsimp only
      split
      · refine ⟨LI.note (s := { s2 with kind := some k', own := true }) ⟨h2.lg, h2.bg, h2.ln⟩ rfl, fun z => ?_, ⟨[(t, .press k), (t, .remember k)], ?_⟩, by show _ ≤ s2.runs.length; rw [e3]; exact Nat.le_refl _⟩
        · cases z
        · rw [note_log (by exact h2.lg)]
          show s2.log ++ _ = _
          rw [e2, List.append_assoc]
          rfl
      · split
        · refine ⟨LI.note (s := { s2 with other := true }) ⟨h2.lg, h2.bg, h2.ln⟩ rfl, fun z => ?_, ⟨[(t, .press k), (t, .remember k'.ot)], ?_⟩, by show _ ≤ s2.runs.length; rw [e3]; exact Nat.le_refl _⟩
          · have z2 : s2.kind = none := z
            rw [hk] at z2
            cases z2
          · show (MSt.note { s2 with other := true } t (.remember k'.ot)).log = _
            rw [note_log (by exact h2.lg)]
            show s2.log ++ _ = _
            rw [e2, List.append_assoc]
            rfl
        · refine ⟨h2, fun z => ?_, ⟨_, e2⟩, by rw [e3]; exact Nat.le_refl _⟩
          rw [hk] at z
          cases z
/-- events whose levers are as they must be -/
def Val : List Kd → List Ev → Prop
  | _, [] => True
  | d, e :: es => (e.2.2 = false → e.2.1 ∈ d) ∧ Val (if e.2.2 then pressDown e.2.1 d else d.filter fun o => decide (o ≠ e.2.1)) es
theorem hist_li {n : Nat} {s a : MSt} {es : List Ev} (g : Hist n s es a) : ∀ {t : Int}, s.rules.Ok → MkOk t s → Asc t es → Val s.down es → LI s → LA s → LI a ∧ LA a ∧ (∃ ys, a.log = s.log ++ ys) ∧ s.runs.length ≤ a.runs.length := by
  induction g with
  | nil h =>
    intro t ok m _ _ l la
    obtain ⟨h1, h2, h3⟩ := rest_li h ok m l la
    exact ⟨h1, h2, h3.l, h3.r⟩
  | @cons s x a t' k d es h _ ih =>
    intro t ok m asc v l la
    obtain ⟨m1, e, _⟩ := MkOk.slow h ok m asc.1
    obtain ⟨l1, la1, g1⟩ := slow_li h ok m asc.1 l la
    have f := hap_f x t' k d
    obtain ⟨l2, la2, ⟨ys, e2⟩, r2⟩ := l1.happen (t := t') (k := k) (d := d) m1 (fun z => by rw [g1.d]; exact v.1 z)
    obtain ⟨l3, la3, ⟨zs, e3⟩, r3⟩ := ih (t := t') (by rw [f.rl, e]; exact ok) m1.happen asc.2 (by rw [f.d, g1.d]; exact v.2) l2 la2
    obtain ⟨ws, e1⟩ := g1.l
    exact ⟨l3, la3, ⟨ws ++ (ys ++ zs), by rw [e3, e2, e1]; simp⟩, Nat.le_trans g1.r (Nat.le_trans r2 r3)⟩
theorem li_new (r : Rl) : LI (MSt.new r true) ∧ LA (MSt.new r true) := ⟨⟨rfl, rfl, rfl⟩, fun _ => .inl ⟨rfl, rfl⟩⟩
/-! ### the clock of a keyer with a log -/
theorem logged_jump {s : MSt} (h : s.logged = true) (t : Int) : decJump t s = s := by
  unfold decJump
  split
  · rfl
  · unfold MSt.jump
    split
    · rfl
    · rw [if_pos h]
theorem logged_adv {t : Int} {s a : MSt} (g : Slow t s a) : ∀ {t0 : Int}, s.rules.Ok → MkOk t0 s → t0 ≤ t → LI s → LA s → s.down.length ≤ 2 → a.log.length ≤ 1000 → a.runs.length ≤ 1000 → t - s.beg < 2 ^ 400 →
    ∃ n, AdvOk n t s ∧ advGo n t s = a ∧ n + s.log.length ≤ a.log.length + 1 := by
  have e4 : sizeLine = 16777216 := rfl
  induction g with
  | @idle s h => exact fun _ _ _ _ _ _ _ _ _ => ⟨0, h, rfl, by omega⟩
  | @stop s k h l =>
    intro t0 ok m tu li la dn hl hr hb
    obtain ⟨_, g1⟩ := li.hearTo (k := k) (t := t)
    have gl := g1.len
    have gr := g1.r
    have tok : TurnOk t s := ⟨dn, by omega, by omega, hb⟩
    by_cases c : (s.rules.canHear k && !s.heard && decide (t < s.beg + s.rules.d)) = true
    · have c2 := c
      rw [Bool.and_eq_true] at c2
      have e1 := turn_wait (k := k) c2.1 (of_decide_eq_true c2.2)
      have e2 : hearTo t s k = s := by unfold hearTo; rw [if_pos c]
      refine ⟨1, .inr ⟨k, h, tok, fun z => by rw [e1] at z; cases z⟩, ?_, by omega⟩
      rw [e2]
      exact advGo_stop h e1
    · have c2 : (s.rules.canHear k && !s.heard && decide (t < s.beg + s.rules.d)) = false := by simpa using c
      have f := heardSt_f s k
      have e1 := turn_stop c2 (show t < (heardSt s k).beg + (heardSt s k).rules.per k by rw [f.b, f.rl]; exact l)
      have e2 : hearTo t s k = heardSt s k := by unfold hearTo; rw [if_neg c]
      refine ⟨1, .inr ⟨k, h, tok, fun z => by rw [e1] at z; cases z⟩, ?_, by omega⟩
      rw [e2]
      exact advGo_stop h e1
  | @go s a k h l n ih =>
    intro t0 ok m tu li la dn hl hr hb
    obtain ⟨m1, _, e0, _, e3, e6⟩ := m.dec ok h l tu
    obtain ⟨l1, g1, ln1, la1⟩ := li.dec m h
    obtain ⟨_, _, g2⟩ := slow_li n (by rw [e3]; exact ok) m1 (Int.le_refl _) l1 la1
    have gl := g2.len
    have gr := Nat.le_trans g1.r g2.r
    have tok : TurnOk t s := ⟨dn, by omega, by omega, hb⟩
    have f := heardSt_f s k
    have hp := Wd.per_ge ok k
    have c2 : (s.rules.canHear k && !s.heard && decide (t < s.beg + s.rules.d)) = false := by
      cases c : (s.rules.canHear k && !s.heard && decide (t < s.beg + s.rules.d)) with
      | false => rfl
      | true =>
        exfalso
        rw [Bool.and_eq_true, Bool.and_eq_true] at c
        have c3 := of_decide_eq_true c.2
        have c4 := c.1.1
        unfold Rl.canHear at c4
        rw [Bool.and_eq_true] at c4
        have := of_decide_eq_true c4.2
        omega
    have e1 := turn_go c2 (show ¬ t < (heardSt s k).beg + (heardSt s k).rules.per k by rw [f.b, f.rl]; omega)
    have e5 : (heardSt s k).decide ((heardSt s k).beg + (heardSt s k).rules.per k) k = s.dec1 k := by
      unfold MSt.dec1
      rw [f.b, f.rl]
    rw [e5, logged_jump l1.lg] at e1
    have hbg : t - (s.dec1 k).beg < 2 ^ 400 := by
      cases hkd : (s.dec1 k).kind with
      | some k' => rw [e6 k' hkd]; omega
      | none =>
        have eb : (s.dec1 k).beg = s.beg := by
          have df := dec_f (heardSt s k) (s.beg + s.rules.per k) k
          rcases df.k with z | ⟨k', z, _⟩
          · exact z.2.trans f.b
          · have : (s.dec1 k).kind = some k' := z
            rw [hkd] at this
            cases this
        rw [eb]
        exact hb
    obtain ⟨j, j1, j2, j3⟩ := ih (by rw [e3]; exact ok) m1 (Int.le_refl _) l1 la1 (by rw [g1.d]; exact dn) hl hr hbg
    refine ⟨j + 1, .inr ⟨k, h, tok, fun _ => by rw [e1]; exact j1⟩, ?_, by omega⟩
    rw [advGo_go h e1]
    exact j2
theorem logged_adv2 {t : Int} {s a : MSt} (g : Slow t s a) {t0 : Int} (ok : s.rules.Ok) (m : MkOk t0 s) (tu : t0 ≤ t) (li : LI s) (la : LA s) (dn : s.down.length ≤ 2) (hl : a.log.length ≤ 1000) (hr : a.runs.length ≤ 1000) (hb : t - s.beg < 2 ^ 400) : AdvOk 2000 t s ∧ s.adv t = a := by
  obtain ⟨n, h1, h2, h3⟩ := logged_adv g ok m tu li la dn hl hr hb
  obtain ⟨h4, h5⟩ := advGo_mono h1 (show n ≤ 2000 by omega)
  exact ⟨h4, h5.trans h2⟩
theorem finGo_none {n : Nat} {s : MSt} (h : s.kind = none) : finGo n s = s := by
  cases n with
  | zero => rfl
  | succ n =>
    unfold finGo
    rw [h]
theorem logged_fin {n : Nat} {s a : MSt} (g : RestN n s a) : ∀ {t0 : Int}, s.rules.Ok → MkOk t0 s → LI s → LA s → s.down.length ≤ 2 → a.log.length ≤ 1000 → a.runs.length ≤ 1000 → FinR n s a ∧ ∀ m, n ≤ m → finGo m s = a := by
  induction g with
  | @idle n s h => exact fun _ _ _ _ _ _ _ => ⟨.done h, fun m _ => finGo_none h⟩
  | @go n s a k h r ih =>
    intro t0 ok m li la dn hl hr
    obtain ⟨u, tu, lu⟩ : ∃ u : Int, t0 ≤ u ∧ s.beg + s.rules.per k ≤ u := by
      rcases Int.le_total t0 (s.beg + s.rules.per k) with z | z
      · exact ⟨_, z, Int.le_refl _⟩
      · exact ⟨t0, Int.le_refl _, z⟩
    obtain ⟨m1, _, _, _, e3, _⟩ := m.dec ok h lu tu
    obtain ⟨l1, g1, _, la1⟩ := li.dec m h
    obtain ⟨_, _, g2⟩ := rest_li r (by rw [e3]; exact ok) m1 l1 la1
    have hp := Rl.per_lt ok k
    have e300 : (2 : Int) ^ 301 < 2 ^ 400 := by decide
    have sl : Slow (s.beg + s.rules.per k) s (s.dec1 k) := .go h (Int.le_refl _) (dec1_stable ok k).slow
    have mb : MkOk s.beg s ∨ True := .inr trivial
    have gl := g2.len
    have gr := g2.r
    obtain ⟨n', j1, j2, j3⟩ : ∃ n', AdvOk n' (s.beg + s.rules.per k) s ∧ advGo n' (s.beg + s.rules.per k) s = s.dec1 k ∧ n' ≤ 2000 := by
      have tok : TurnOk (s.beg + s.rules.per k) s := by
        have e4 : sizeLine = 16777216 := rfl
        have := g1.len
        have := g1.r
        exact ⟨dn, by omega, by omega, by omega⟩
      have e1 := turn_at (s := s) (k := k) ok
      have e5 : (heardSt s k).decide (s.beg + s.rules.per k) k = s.dec1 k := rfl
      rw [e5, logged_jump l1.lg] at e1
      cases hkd : (s.dec1 k).kind with
      | none =>
        refine ⟨1, .inr ⟨k, h, tok, fun _ => by rw [e1]; exact hkd⟩, ?_, by decide⟩
        rw [advGo_go h e1]
        rfl
      | some k' =>
        have st := dec1_stable ok k k' hkd
        have eb : (s.dec1 k).beg = s.beg + s.rules.per k := by
          have df := dec_f (heardSt s k) (s.beg + s.rules.per k) k
          rcases df.k with z | ⟨k2, _, z⟩
          · have : (s.dec1 k).kind = none := z.1
            rw [hkd] at this
            cases this
          · exact z
        have tok2 : TurnOk (s.beg + s.rules.per k) (s.dec1 k) := by
          have e4 : sizeLine = 16777216 := rfl
          have e0 : (0 : Int) < 2 ^ 400 := by decide
          exact ⟨by rw [g1.d]; exact dn, by omega, by omega, by rw [eb]; omega⟩
        have e7 : ∃ b, (s.dec1 k).turn (s.beg + s.rules.per k) k' = (s.dec1 k, false) ∨ b = true := ⟨true, .inr rfl⟩
        by_cases c : ((s.dec1 k).rules.canHear k' && !(s.dec1 k).heard) = true
        · have e8 := turn_wait (t := s.beg + s.rules.per k) c (st.2 c)
          refine ⟨2, .inr ⟨k, h, tok, fun _ => by rw [e1]; exact .inr ⟨k', hkd, tok2, fun z => by rw [e8] at z; cases z⟩⟩, ?_, by decide⟩
          rw [advGo_go h e1]
          exact advGo_stop hkd e8
        · have c2 : ((s.dec1 k).rules.canHear k' && !(s.dec1 k).heard) = false := by simpa using c
          have eh : heardSt (s.dec1 k) k' = s.dec1 k := by unfold heardSt; rw [if_neg c]
          have e8 := turn_stop (t := s.beg + s.rules.per k) (st := s.dec1 k) (k := k') (by rw [c2]; rfl) (by rw [eh]; exact st.1)
          rw [eh] at e8
          refine ⟨2, .inr ⟨k, h, tok, fun _ => by rw [e1]; exact .inr ⟨k', hkd, tok2, fun z => by rw [e8] at z; cases z⟩⟩, ?_, by decide⟩
          rw [advGo_go h e1]
          exact advGo_stop hkd e8
    obtain ⟨f1, f2⟩ := ih (by rw [e3]; exact ok) m1 l1 la1 (by rw [g1.d]; exact dn) hl hr
    refine ⟨.go h j1 (by rw [j2]; exact f1), fun m hm => ?_⟩
    obtain ⟨m, rfl⟩ : ∃ m', m = m' + 1 := ⟨m - 1, by omega⟩
    unfold finGo
    rw [h]
    dsimp only
    rw [show s.adv (s.beg + s.rules.per k) = s.dec1 k from ((advGo_mono j1 j3).2).trans j2]
    exact f2 m (by omega)
end Sq
end
section
set_option Elab.async false
set_option linter.all false
set_option maxRecDepth 100000
set_option maxHeartbeats 4000000
/-! sum of a dict's values; list of a range. -/
namespace Sq
open PySem PySem.Spec PyProof.Rows L2
theorem pre_sum (is : List Int) : ∀ n, n ≤ is.length → preSum (fun i => is.getD i 0) n = (is.take n).sum
  | 0, _ => rfl
  | n + 1, h => by
    have h1 := pre_sum is n (by omega)
    have h2 : is[n]? = some is[n] := List.getElem?_eq_getElem h
    show preSum (fun i => is.getD i 0) n + is.getD n 0 = _
    rw [h1, List.take_succ, h2, List.sum_append, List.getD_eq_getElem?_getD, h2]
    simp
def tSumVals (td : TE) : TE := fun σ H Q => td σ H fun x H1 => ∃ (a : Addr) (kvs : List (Key × V)) (is : List Int), x = V.ref a ∧ H1 a = some (.dK kvs) ∧ kvs.map (·.2) = is.map V.int ∧ Q (.int is.sum) H1
section
variable {X : Cx} {o : Expr} {p pos apos mpos : Pos} {td : TE}
theorem pe_sumVals (hc : X.calm = true) (hg : Gl X "sum") (hm : X.mg "sum" = none) (hd : PE X o td) (hbase : attributeBase o "values" X.env (eval o X.env) = eval o X.env := by rfl) (hline : (apos.endLine == mpos.line) = true := by rfl)
    (hse : starEach [Expr.Call (.Attribute o "values" apos) [] [] mpos] X.env = [(false, eval (Expr.Call (.Attribute o "values" apos) [] [] mpos) X.env)] := by rfl) :
    PE X (.Call (.Name "sum" p) [.Call (.Attribute o "values" apos) [] [] mpos] [] pos) (tSumVals td) := ⟨fun pins s σ H Q I h => by
  refine wpAny_Call_Name_kw (ld_blt I hg hm (u := .builtin "sum") (by first | rfl | decide +kernel) ?_ (by first | decide +kernel | decide) (by first | decide +kernel | decide))
  rw [hse]
  refine PySem.callWith_builtin1 (wpAny_Call_method0_late hbase hline (thn (hd.run pins s σ H _ I h) fun v s1 z => ?_))
  obtain ⟨x, H1, I1, r1, a, kvs, is, rfl, ha, hv, q⟩ := z
  cases (show v = Value.ref a from r1)
  obtain ⟨_, sys, vs, rel, dof⟩ := dk_of I1.hok ha
  obtain ⟨ep, dat⟩ := dof.dictAt
  obtain ⟨ob, es, ho, ex, rest⟩ := id dat
  refine ⟨"dict", "dict.values", F.plainAttrs_dict, F.slot_dict_values, F.type_dict_values, ⟨ob, ho, ex.1⟩, (fun b e => by cases e; exact ⟨ob, ho, ex.2.1⟩), Calls.callWith_builtin rfl (PySem.evalArgs_none ?_)⟩
  refine call_meetsIn F.slot_dict_values ⟨ob, ho, ex.1⟩ F.entry_dict_values (F.args_dict_values_1 _) (meets_dict_values (mixKind X.prog X.w) a sys) ⟨⟨vs, dof⟩, ?_⟩
  let vw : Obj := { cls := .type "dict_values", data := .fields #[.ref a] }
  have old : ∀ b u, s1.heap.get? b = some u → (s1.heap.push vw).get? b = some u := fun b u e => Heap.get?_push_of_some _ e
  have at1 : (s1.heap.push vw).DictAt (mixKind X.prog X.w) a vs ep := dat.keep old
  have lv : vs.length = is.length := (KV.length rel).symm.trans (by have e := congrArg List.length hv; rwa [List.length_map, List.length_map] at e)
  have nth : ∀ (i : Nat) (u : Value), (∃ k, vs[i]? = some (k, u)) → ∃ t, u = Value.int (is.getD i 0) t := fun i u z => by
    obtain ⟨k, hk⟩ := z
    obtain ⟨x, h1, h2⟩ := KV.at' rel hk
    have e1 : (kvs.map (·.2))[i]? = some x := by rw [List.getElem?_map, h1]; rfl
    rw [hv, List.getElem?_map] at e1
    obtain ⟨j, hj, rfl⟩ := Option.map_eq_some_iff.mp e1
    obtain ⟨t, e3⟩ := h2
    exact ⟨t, by rw [e3, List.getD_eq_getElem?_getD, hj]; rfl⟩
  have lt : a < s1.heap.objs.size := Heap.lt_size ho
  have sz : (s1.heap.push vw).objs.size = s1.heap.objs.size + 1 := Heap.size_push ..
  refine call_sum_walkG (wpAny_pyIter_values (v := s1.heap.objs.size) (d := a) ⟨_, Heap.get?_push_size _ rfl, rfl, rfl⟩ at1 ?_)
  refine ⟨_, _, _, _, _, _, fun i => is.getD i 0, rfl, Walks.dictValues (knd := mixKind X.prog X.w) (A := X.A.in1) (I.ok.hd hc) (s1.heap.push vw).objs.size a (by rw [sz]; exact Nat.ne_of_lt (Nat.lt_succ_of_lt lt)) vs ep,
    ⟨⟨_, Heap.get?_push_size _ rfl, rfl, rfl⟩, at1.keep fun b u e => Heap.get?_push_of_some _ e⟩, (fun b hb => ?_), nth, fun h' tk t' k => ?_⟩
  · have sz2 : ∀ ob : Obj, ((s1.heap.push vw).push ob).objs.size = s1.heap.objs.size + 1 + 1 := fun ob => by rw [Heap.size_push, sz]
    show b < ((s1.heap.push vw).push _).objs.size
    rw [sz2]
    simp only [List.mem_cons, List.not_mem_nil, or_false] at hb
    rcases hb with z | z
    · rw [z, sz]; exact Nat.lt_succ_self _
    · rw [z]; exact Nat.lt_succ_of_lt (Nat.lt_succ_of_lt lt)
  · rw [lv, pre_sum is _ (Nat.le_refl _), List.take_length]
    refine ⟨.int _, H1, I1.kept (t' := tk) fun b u e => k b u (fun z => ?_) (Heap.get?_push_of_some _ (old b u e)), ⟨t', rfl⟩, q⟩
    have e2 := Heap.lt_size e
    rw [List.mem_singleton.mp z, sz] at e2
    exact absurd e2 (Nat.not_lt.mpr (Nat.le_succ _))⟩
theorem r_sumV {σ : L2.St} {H : Hp} {Q : VK} (h : td σ H fun x H1 => ∃ (a : Addr) (kvs : List (Key × V)) (is : List Int), x = V.ref a ∧ H1 a = some (.dK kvs) ∧ kvs.map (·.2) = is.map V.int ∧ Q (.int is.sum) H1) : tSumVals td σ H Q := h
/-- where a text stands in another, the first time -/
def rSix : V → List V → Hp → VK → Prop := fun x xs H Q => ∃ (a b : Str) (i : Nat) (rest : List Nat), x = .str a ∧ xs = [.str b] ∧ Builtin.Str.occurrences a b 0 a.length 1 = i :: rest ∧ Q (.int (i : Nat)) H
theorem pe_sixN {o e : Expr} {to te : TE} {apos pos : Pos} (ho : PE X o to) (he : PE X e te) (hs : starEach [e] X.env = [(false, eval e X.env)] := by rfl) (hbase : attributeBase o "index" X.env (eval o X.env) = eval o X.env := by rfl) (hline : (apos.endLine == pos.line) = true := by rfl) :
    PE X (.Call (.Attribute o "index" apos) [e] [] pos) (tM1 rSix to te) := pe_m1 PySem.F.slot_str_index PySem.F.type_str_index mt_sindex ho he hs hbase hline
theorem r_listRg {ta : TE} {σ : L2.St} {H : Hp} {Q : VK} (h : ta σ H fun x H1 => ∃ n, x = .int n ∧ RgOk 0 n ∧ ∀ q, H1 q = none → Q (.ref q) (upd H1 q (.lst (rgV 0 n)))) : tLstRg (tRg1 ta) σ H Q := h
theorem sl_tupK {X : Cx} {K : PySem.W.Frag} (h : X.K = K) : SlR X (rSlT K) := by subst h; exact sl_tup
theorem sl_listK {X : Cx} {K : PySem.W.Frag} (h : X.K = K) : SlR X (rSlL K) := by subst h; exact sl_list
theorem op_eqDK {X : Cx} {K : PySem.W.Frag} (h : X.K = K) (hu : X.A.units + 64 < cLine) : OpR X (compareOp .Eq) (rEqD K) := by subst h; exact op_eqD hu
theorem op_neDK {X : Cx} {K : PySem.W.Frag} (h : X.K = K) (hu : X.A.units + 64 < cLine) : OpR X (compareOp .NotEq) (rNeD K) := by subst h; exact op_neD hu
end
end Sq
end
section
set_option Elab.async false
set_option linter.all false
set_option maxRecDepth 100000
set_option maxHeartbeats 4000000
namespace Sq
open PySem PySem.Spec PyProof.Rows L2
local macro_rules | `(tactic| walk_at "cx") => `(tactic| try dsimp only [cxOf, Cx.nox, Cx.wish])
local macro_rules | `(tactic| walk_at "h0") => `(tactic| first
  | assumption
  | with_reducible exact upd_same
  | with_reducible exact SqT.of upd_same
  | with_reducible exact SqL.of upd_same
  | with_reducible exact SqT.of (by assumption)
  | with_reducible exact SqL.of (by assumption))
local macro_rules | `(tactic| walk_at "h1") => `(tactic| first
  | walk_at "h0"
  | with_reducible exact Same.tup (by assumption) (by assumption)
  | with_reducible exact Same.seq (by assumption) (by assumption)
  | with_reducible exact Same.tup (Same.mut (by assumption) (by assumption)) (by assumption)
  | with_reducible exact Same.seq (Same.mut (by assumption) (by assumption)) (by assumption)
  | with_reducible exact Same.tup (Same.new (by assumption)) (by walk_at "h0")
  | with_reducible exact Same.seq (Same.new (by assumption)) (by walk_at "h0"))
local macro_rules | `(tactic| walk_at "hp") => `(tactic| first
  | walk_at "h1"
  | with_reducible exact Same.tup (Same.new (by assumption)) (by walk_at "h1")
  | with_reducible exact Same.seq (Same.new (by assumption)) (by walk_at "h1"))
local macro_rules | `(tactic| walk_at "r1") => `(tactic| first
  | with_reducible refine r_seq ?_
  | with_reducible refine r_next ?_
  | with_reducible refine r_nx ?_
  | with_reducible refine r_rt ?_
  | ((with_reducible refine' r_var ?e1 ?_); (case e1 => rfl))
  | with_reducible refine r_c ?_
  | with_reducible refine r_op ?_
  | with_reducible refine r_asg ?_
  | with_reducible refine r_gname ?_
  | with_reducible refine r_fld ?_
  | with_reducible refine r_sfld ?_
  | with_reducible refine r_gfld ?_
  | with_reducible refine r_call0 ?_
  | with_reducible refine r_call ?_
  | with_reducible refine r_meth0 ?_
  | with_reducible refine r_make0 ?_
  | with_reducible refine r_nil ?_
  | with_reducible refine r_cons ?_
  | with_reducible refine r_cb ?_
  | with_reducible refine r_tup ?_
  | with_reducible refine r_lst ?_
  | with_reducible refine r_test ?_
  | with_reducible refine r_B ?_
  | with_reducible refine r_bl ?_
  | with_reducible refine r_int ?_
  | with_reducible refine r_if ?_
  | with_reducible refine r_ifE ?_
  | with_reducible refine r_and ?_
  | with_reducible refine r_or ?_
  | with_reducible refine r_not ?_
  | with_reducible refine r_andV ?_
  | with_reducible refine r_orV ?_
  | with_reducible refine r_notV ?_
  | with_reducible refine r_ret ?_
  | with_reducible refine r_retN ?_
  | with_reducible refine r_drop ?_
  | with_reducible refine r_par ?_
  | with_reducible refine r_par3 ?_
  | with_reducible refine r_gcons ?_
  | with_reducible refine r_gnil ?_
  | with_reducible refine r_brk ?_
  | with_reducible refine r_cont ?_
  | ((with_reducible refine' r_aug ?e1 ?_); (case e1 => rfl))
  | with_reducible refine r_un ?_
  | with_reducible refine r_rU ?_
  | with_reducible refine r_chain ?_
  | with_reducible refine r_star ?_
  | with_reducible refine r_bm ?_
  | with_reducible refine r_bm0 ?_
  | with_reducible refine r_m1 ?_
  | with_reducible refine r_sl ?_
  | with_reducible refine r_noPart ?_
  | with_reducible refine r_part ?_
  | with_reducible refine r_revL ?_
  | with_reducible refine r_dget ?_
  | ((with_reducible refine' r_gtup ?e0 ?e1 ?_); (case e0 => walk_at "hp"); (case e1 => rfl))
  | with_reducible refine r_two ?_
  | with_reducible refine r_three ?_
  | ((with_reducible refine' r_lenS ?e0 ?_); (case e0 => walk_at "hp"))
  | ((with_reducible refine' r_lenT ?e0 ?_); (case e0 => walk_at "hp"))
  | ((with_reducible refine' r_lenZ ?e0 ?_); (case e0 => assumption))
  | with_reducible refine r_isN ?_
  | with_reducible refine r_notN ?_
  | ((with_reducible refine' r_addZ ?e0 ?_); (case e0 => assumption))
  | ((with_reducible refine' r_listO ?e0 ?_); (case e0 => walk_at "hp"))
  | ((with_reducible refine' r_tupO ?e0 ?_); (case e0 => walk_at "hp"))
  | with_reducible refine r_int1 ?_
  | with_reducible refine r_int1b ?_
  | ((with_reducible refine' r_strI ?e0 ?_); (case e0 => assumption))
  | with_reducible refine r_max ?_
  | with_reducible refine r_min ?_
  | with_reducible refine r_abs ?_
  | ((with_reducible refine' r_dictC ?e0 ?_); (case e0 => walk_at "hp"))
  | ((with_reducible refine' r_tyL ?e0 ?_); (case e0 => walk_at "hp"))
  | ((with_reducible refine' r_append ?e0 ?e1 ?_); (case e0 => walk_at "hp"); (case e1 => first | assumption | exact Nat.lt_of_lt_of_le (Nat.lt_of_succ_le (Nat.le_of_ble_eq_true (m := 1000) rfl)) (by decide)))
  | ((with_reducible refine' r_starL ?e0 ?_); (case e0 => walk_at "hp"))
  | ((with_reducible refine' r_starT ?e0 ?_); (case e0 => walk_at "hp"))
  | ((with_reducible refine' r_sz ?e0 ?_); (case e0 => rfl))
  | with_reducible refine fun p (hp : _ = none) => ?_
  | ((with_reducible refine' r_slT ?e0 ?e1 ?_); (case e0 => walk_at "hp"); (case e1 => rfl))
  | ((with_reducible refine' r_slL ?e0 ?_); (case e0 => walk_at "hp"))
  | with_reducible refine r_lc ?_
  | with_reducible refine r_iStr ?_
  | with_reducible refine r_str ?_
  | with_reducible refine r_iList ?_
  | with_reducible refine r_iTup ?_
  | with_reducible refine r_iEnum ?_
  | ((with_reducible refine' r_il ?e0 ?_); (case e0 => walk_at "hp"))
  | ((with_reducible refine' r_it ?e0 ?_); (case e0 => walk_at "hp"))
  | ((with_reducible refine' r_ie ?e0 ?_); (case e0 => walk_at "hp"))
  | with_reducible refine r_tYes ?_
  | with_reducible refine r_for ?_
  | with_reducible refine r_dget2 ?_
  | with_reducible refine r_daug ?_
  | with_reducible refine r_I0 ?_
  | with_reducible refine r_ip ?_
  | with_reducible refine r_rAdd ?_
  | ((with_reducible refine' r_eq ?e1 ?_); (case e1 => rfl))
  | ((with_reducible refine' r_ne ?e1 ?_); (case e1 => rfl))
  | ((with_reducible refine' r_ixT ?e1 ?e2 ?_); (case e1 => walk_at "hp"); (case e2 => rfl))
  | ((with_reducible refine' r_ixL ?e1 ?e2 ?_); (case e1 => walk_at "hp"); (case e2 => first | rfl | assumption))
  | ((with_reducible refine' r_inT ?e1 ?e2 ?e3 ?_); (case e1 => walk_at "hp"); (case e2 => rfl); (case e3 => first | rfl | assumption))
  | ((with_reducible refine' r_inL ?e1 ?e2 ?e3 ?_); (case e1 => walk_at "hp"); (case e2 => rfl); (case e3 => first | rfl | assumption))
  | ((with_reducible refine' r_niL ?e1 ?e2 ?e3 ?_); (case e1 => walk_at "hp"); (case e2 => rfl); (case e3 => first | rfl | assumption))
  | ((with_reducible refine' r_niT ?e1 ?e2 ?e3 ?_); (case e1 => walk_at "hp"); (case e2 => rfl); (case e3 => first | rfl | assumption))
  | ((with_reducible refine' r_ifT ?e1 ?_); (case e1 => first | rfl | assumption))
  | ((with_reducible refine' r_ifF ?e1 ?_); (case e1 => first | rfl | assumption)))
local macro_rules | `(tactic| walk_at "rd") => `(tactic| repeat walk_at "r1")

local macro_rules | `(tactic| walk_at "r1") => `(tactic| first
  | with_reducible refine i_int_int ?_
  | with_reducible refine i_int_bool ?_
  | with_reducible refine i_bl_bool ?_
  | with_reducible refine i_str_str ?_
  | with_reducible refine i_bl_int ?_
  | ((with_reducible refine' i_tup_tuple ?e0 ?_); (case e0 => walk_at "hp"))
  | ((with_reducible refine' i_lst_list ?e0 ?_); (case e0 => walk_at "hp"))
  | with_reducible refine And.intro rfl ?_)

section
section
variable {P : Program} {w : World} {K : PySem.W.Frag} {mg : Str → Option Value} {base : Heap}
/-! ### values -/
def spInt : Sp := fun vs H Q _ => ∃ (i : Int) (y : V), vs = [.int i, y] ∧ ((y = .non ∧ Q (.bl true) H) ∨ ∃ m, y = .int m ∧ Q (.bl (decide (m ≤ i))) H)
theorem fn_is_integer (T : Txt K mg) : ∃ (fd : FuncData), FunD K "is_integer" "is_integer" (defArgs s_is_integer) (defBody s_is_integer) (defScope s_is_integer) [.non] [] (He.fAd K ("is_integer", none)) fd ∧ FnOk P w K mg base CX0 1 (He.fAd K ("is_integer", none)) fd ["value", "least"] spInt := by
  refine fnD (D_is_integer T) sc_is_integer (fun vs H Q E h => ?_) (fun cdv A outer s H vs Q E hr h => ?_)
  · obtain ⟨_, _, rfl, _⟩ := h
    rfl
  · have hu := hu_of hr
    refine ⟨_, (pss_cons (ps_if (PW.pt (pw_or (pt_not (pt_val (pe_callB call_isi (by rfl) (T_isinstance T) (by decide +kernel) (pa_cons (pv 0) (pa_cons (pe_bltn (v := .ty "int") (u := .type "int") (by rfl) (T_int T) (by decide +kernel) rfl) pa_nil))))) (pw_or1 (pt_val (pe_callB call_isi (by rfl) (T_isinstance T) (by decide +kernel) (pa_cons (pv 0) (pa_cons (pe_bltn (v := .ty "bool") (u := .type "bool") (by rfl) (T_bool T) (by decide +kernel) rfl) pa_nil)))))))
      (pss_one (ps_ret pe_bl))
      pss_nil)
      (pss_one (ps_ret (pe_or (pe_cmpR oq_isN (pv 1) pe_non (nomark _)) (pe_one (pe_cmpR op_ge (pv 0) (pv 1) (nomark _))))))), ?_⟩
    walk_at "cx"
    obtain ⟨i, y, rfl, h1⟩ := h
    walk_at "rd"
    rcases h1 with ⟨rfl, q⟩ | ⟨m, rfl, q⟩
    · walk_at "rd"
      exact q
    · walk_at "rd"
      exact q
theorem ok_is_integer (T : Txt K mg) : C8.Cal P w K mg base 1 "is_integer" spInt [] := by
  obtain ⟨fd, F, G⟩ := fn_is_integer (P := P) (w := w) (base := base) T
  obtain ⟨ds, h1, h2⟩ := F.binds1 (ps := ["value", "least"]) 2 1 (by simp) rfl fun _ _ _ _ _ _ _ us its l1 l2 => match us, l1, its, l2 with | [_, _], _, [_], _ => ⟨_, rfl, rfl⟩
  cases h1
  exact ⟨_, fd, _, [], G, T_is_integer T, F.kp, h2, .nil⟩
theorem ok_is_integer1 (T : Txt K mg) : C8.Cal P w K mg base 1 "is_integer" spInt [.non] := by
  obtain ⟨fd, F, G⟩ := fn_is_integer (P := P) (w := w) (base := base) T
  obtain ⟨ds, h1, h2⟩ := F.binds1 (ps := ["value", "least"]) 1 0 (by simp) rfl fun _ _ _ _ _ _ _ us its l1 l2 => match us, l1, its, l2 with | [_], _, [_], _ => ⟨_, rfl, rfl⟩
  exact ⟨_, fd, _, ds, G, T_is_integer T, F.kp, h2, h1⟩
theorem u_int {H : Hp} {Q : VK} {E : XK} {i m : Int} (q : Q (.bl (decide (m ≤ i))) H) : spInt [.int i, .int m] H Q E := ⟨i, _, rfl, .inr ⟨m, rfl, q⟩⟩
theorem u_int1 {H : Hp} {Q : VK} {E : XK} {i : Int} (q : Q (.bl true) H) : spInt ([.int i] ++ [.non]) H Q E := ⟨i, _, rfl, .inl ⟨rfl, q⟩⟩
def spOne (K : PySem.W.Frag) : Sp := fun vs H Q _ => ∃ (z : Str) (t : Addr) (ws : List Str), vs = [.str z, .ref t] ∧ SqT K H t (ws.map V.str) ∧ Q (.bl (decide (z ∈ ws))) H
theorem ok_is_one_of (T : Txt K mg) : C8.Cal P w K mg base 1 "is_one_of" (spOne K) [] := by
  refine calD (D_is_one_of T) (T_is_one_of T) sc_is_one_of (fun _ _ _ _ _ _ us hl => match us, hl with | [_, _], _ => rfl) (fun vs H Q E h => ?_) (fun cdv A outer s H vs Q E hr h => ?_)
  · obtain ⟨_, _, _, rfl, _⟩ := h
    rfl
  · have hu := hu_of hr
    refine ⟨_, (pss_one (ps_ret (pe_and (pe_callB call_isi (by rfl) (T_isinstance T) (by decide +kernel) (pa_cons (pv 0) (pa_cons (pe_bltn (v := .ty "str") (u := .type "str") (by rfl) (T_str T) (by decide +kernel) rfl) pa_nil))) (pe_one (pe_cmpR op_in_seq (pv 0) (pv 1) (by rfl)))))), ?_⟩
    walk_at "cx"
    obtain ⟨z, t, ws, rfl, h1, q⟩ := h
    walk_at "rd"
    refine r_inT h1 rfl (by simp [flatV]) ?_
    walk_at "rd"
    rw [in_words]
    exact q
theorem u_one {H : Hp} {Q : VK} {E : XK} {z : Str} {t : Addr} {ws : List Str} (h : SqT K H t (ws.map V.str)) (q : Q (.bl (decide (z ∈ ws))) H) : spOne K [.str z, .ref t] H Q E := ⟨z, t, ws, rfl, h, q⟩
def spLen (K : PySem.W.Frag) : Sp := fun vs H Q _ => ∃ (a : Addr) (r : Rl) (k : Kd), vs = [.ref a, kv k] ∧ SqT K H a r.vs ∧ Q (.int (r.len k)) H
theorem ok_length_of (T : Txt K mg) : C8.Cal P w K mg base 1 "length_of" (spLen K) [] := by
  refine calD (D_length_of T) (T_length_of T) sc_length_of (fun _ _ _ _ _ _ us hl => match us, hl with | [_, _], _ => rfl) (fun vs H Q E h => ?_) (fun cdv A outer s H vs Q E hr h => ?_)
  · obtain ⟨_, _, _, rfl, _⟩ := h
    rfl
  · have hu := hu_of hr
    refine ⟨_, (pss_one (ps_ret (pe_ifExp (pt_cmpR op_eq (pv 1) pe_str (nomark _)) (pe_ix ix_tup (pv 0) pe_int (fun _ _ => rfl)) (pe_ix ix_tup (pv 0) pe_int (fun _ _ => rfl))))), ?_⟩
    walk_at "cx"
    obtain ⟨a, r, k, rfl, h1, q⟩ := h
    cases k
    all_goals walk_at "rd"
    all_goals exact q
theorem u_len {H : Hp} {Q : VK} {E : XK} {a : Addr} {r : Rl} {k : Kd} (h : SqT K H a r.vs) (q : Q (.int (r.len k)) H) : spLen K [.ref a, kv k] H Q E := ⟨a, r, k, rfl, h, q⟩
local macro_rules | `(tactic| walk_at "r1") => `(tactic| first
  | with_reducible refine u_int ?_
  | with_reducible refine u_int1 ?_
  | ((with_reducible refine' u_one ?e0 ?_); (case e0 => walk_at "hp"))
  | ((with_reducible refine' u_len ?e0 ?_); (case e0 => walk_at "hp")))

def spPer (K : PySem.W.Frag) : Sp := fun vs H Q _ => ∃ (a : Addr) (r : Rl) (k : Kd), vs = [.ref a, kv k] ∧ SqT K H a r.vs ∧ Q (.int (r.per k)) H
theorem ok_period_of (T : Txt K mg) : C8.Cal P w K mg base 2 "period_of" (spPer K) [] := by
  refine calD (D_period_of T) (T_period_of T) sc_period_of (fun _ _ _ _ _ _ us hl => match us, hl with | [_, _], _ => rfl) (fun vs H Q E h => ?_) (fun cdv A outer s H vs Q E hr h => ?_)
  · obtain ⟨_, _, _, rfl, _⟩ := h
    rfl
  · have hu := hu_of hr
    refine ⟨_, (pss_one (ps_ret (pe_op op_add (C8.pe_c (ok_length_of T) hr (by decide) rfl (pa_cons (pv 0) (pa_cons (pv 1) pa_nil))) (pe_ix ix_tup (pv 0) pe_int (fun _ _ => rfl))))), ?_⟩
    walk_at "cx"
    obtain ⟨a, r, k, rfl, h1, q⟩ := h
    walk_at "rd"
    exact q
theorem u_per {H : Hp} {Q : VK} {E : XK} {a : Addr} {r : Rl} {k : Kd} (h : SqT K H a r.vs) (q : Q (.int (r.per k)) H) : spPer K [.ref a, kv k] H Q E := ⟨a, r, k, rfl, h, q⟩
def spOt : Sp := fun vs H Q _ => ∃ (k : Kd), vs = [kv k] ∧ Q (kv k.ot) H
theorem ok_other_of (T : Txt K mg) : C8.Cal P w K mg base 1 "other_of" spOt [] := by
  refine calD (D_other_of T) (T_other_of T) sc_other_of (fun _ _ _ _ _ _ us hl => match us, hl with | [_], _ => rfl) (fun vs H Q E h => ?_) (fun cdv A outer s H vs Q E hr h => ?_)
  · obtain ⟨_, rfl, _⟩ := h
    rfl
  · have hu := hu_of hr
    refine ⟨_, (pss_one (ps_ret (pe_ifExp (pt_cmpR op_eq (pv 0) pe_str (nomark _)) pe_str pe_str))), ?_⟩
    walk_at "cx"
    obtain ⟨k, rfl, q⟩ := h
    cases k
    all_goals walk_at "rd"
    all_goals exact q
theorem u_ot {H : Hp} {Q : VK} {E : XK} {k : Kd} (q : Q (kv k.ot) H) : spOt [kv k] H Q E := ⟨k, rfl, q⟩
local macro_rules | `(tactic| walk_at "r1") => `(tactic| first
  | ((with_reducible refine' u_per ?e0 ?_); (case e0 => walk_at "hp"))
  | with_reducible refine u_ot ?_)

def spCh (K : PySem.W.Frag) : Sp := fun vs H Q _ => ∃ (a : Addr) (r : Rl) (k : Kd), vs = [.ref a, kv k] ∧ SqT K H a r.vs ∧ Q (.bl (r.canHear k)) H
theorem ok_can_hear (T : Txt K mg) : C8.Cal P w K mg base 3 "can_hear" (spCh K) [] := by
  refine calD (D_can_hear T) (T_can_hear T) sc_can_hear (fun _ _ _ _ _ _ us hl => match us, hl with | [_, _], _ => rfl) (fun vs H Q E h => ?_) (fun cdv A outer s H vs Q E hr h => ?_)
  · obtain ⟨_, _, _, rfl, _⟩ := h
    rfl
  · have hu := hu_of hr
    refine ⟨_, (pss_one (ps_ret (pe_and (pe_or (pe_cmpR op_ne (pe_ix ix_tup (pv 0) pe_int (fun _ _ => rfl)) pe_str (nomark _)) (pe_one (pe_ix ix_tup (pv 0) pe_int (fun _ _ => rfl)))) (pe_one (pe_cmpR op_lt (pe_ix ix_tup (pv 0) pe_int (fun _ _ => rfl)) (C8.pe_c (ok_period_of T) hr (by decide) rfl (pa_cons (pv 0) (pa_cons (pv 1) pa_nil))) (nomark _)))))), ?_⟩
    walk_at "cx"
    obtain ⟨a, r, k, rfl, h1, q⟩ := h
    have q2 : Q (.bl ((decide (r.rem ≠ .no) || r.ag) && decide (r.d < r.per k))) H := q
    walk_at "rd"
    cases e : r.rem
    all_goals rw [e] at q2
    · walk_at "rd"
      cases e2 : r.ag
      all_goals rw [e2] at q2
      all_goals walk_at "rd"
      all_goals exact q2
    · walk_at "rd"
      exact q2
    · walk_at "rd"
      exact q2
theorem u_ch {H : Hp} {Q : VK} {E : XK} {a : Addr} {r : Rl} {k : Kd} (h : SqT K H a r.vs) (q : Q (.bl (r.canHear k)) H) : spCh K [.ref a, kv k] H Q E := ⟨a, r, k, rfl, h, q⟩
local macro_rules | `(tactic| walk_at "r1") => `(tactic| first
  | ((with_reducible refine' u_ch ?e0 ?_); (case e0 => walk_at "hp")))


theorem wd_eq : ∀ x : Wd, x.str = ⟨(x.ks.map fun k => match k with | .s => 115 | .l => 108).toArray⟩
  | .one .s => by decide +kernel
  | .one .l => by decide +kernel
  | .two .s => by decide +kernel
  | .two .l => by decide +kernel
theorem kd_eq : ∀ k : Kd, k.str = ⟨#[match k with | .s => 115 | .l => 108]⟩
  | .s => by decide +kernel
  | .l => by decide +kernel
theorem wd_size (x : Wd) : x.str.cps.size = x.ks.length := by
  rw [wd_eq]
  simp
theorem wd_len : ∀ x : Wd, x.ks.length ≤ sizeLine
  | .one _ => show 1 ≤ sizeLine by decide
  | .two _ => show 2 ≤ sizeLine by decide
theorem wd_at {x : Wd} {i : Nat} {c : Nat} (h : x.str.cps[i]? = some c) : ∃ k, x.ks[i]? = some k ∧ V.str ⟨#[c]⟩ = kv k := by
  rw [wd_eq] at h
  simp only [List.getElem?_toArray, List.getElem?_map] at h
  cases e : x.ks[i]? with
  | none =>
    rw [e] at h
    cases h
  | some k =>
    rw [e] at h
    refine ⟨k, rfl, ?_⟩
    have := Option.some.inj h
    show V.str _ = V.str k.str
    rw [kd_eq k, ← this]
theorem range_map {α β : Type} {l : List α} {d : α} {f : α → β} : (List.range l.length).map (fun i => f ((l[i]?).getD d)) = l.map f := by
  refine List.ext_getElem (by simp) fun i h1 h2 => ?_
  have h3 : i < l.length := by simpa using h1
  simp [h3]
def spWp (K : PySem.W.Frag) : Sp := fun vs H Q _ => ∃ (a : Addr) (r : Rl) (x : Wd), vs = [.ref a, .str x.str] ∧ SqT K H a r.vs ∧ ∀ H', Same H H' → Q (.int (x.per r)) H'
theorem ok_word_period (T : Txt K mg) : C8.Cal P w K mg base 3 "word_period" (spWp K) [] := by
  refine calD (D_word_period T) (T_word_period T) sc_word_period (fun _ _ _ _ _ _ us hl => match us, hl with | [_, _], _ => rfl) (fun vs H Q E h => ?_) (fun cdv A outer s H vs Q E hr h => ?_)
  · obtain ⟨_, _, _, rfl, _⟩ := h
    rfl
  · have hu := hu_of hr
    refine ⟨_, (pss_one (ps_ret (pe_callB (cr_sum rfl) (by rfl) (T_sum T) (by decide +kernel) (pa_cons (pe_lc (own := [("kind", 2)]) rfl sc_word_period.nd (pi_str (pv 1)) (blkOk_by (own := [("kind", 2)]) (N := ["rules", "word", "kind"]) (sc := defScope s_word_period) (by decide +kernel)) (fun _ _ _ _ _ => (pg_name (i := 2) sc_word_period.nd rfl (Or.inl rfl))) (fun _ _ _ _ _ => pts_nil) (fun _ _ _ _ _ => (C8.pe_c (ok_period_of T) hr (by decide) rfl (pa_cons (pv 0) (pa_cons (pv 2) pa_nil))))) pa_nil)))), ?_⟩
    walk_at "cx"
    obtain ⟨a, r, x, rfl, h1, q⟩ := h
    walk_at "rd"
    rename_i D hD
    refine lc_it walk_str (fun i H' => Same H H' ∧ H' D = some (.lst ((List.range i).map fun i => V.int (r.per ((x.ks[i]?).getD .s))))) (lc_0 hD) (fun _ _ _ _ => trivial) (fun i y Ha Hb hi hs hy => ?_) (fun Ha hs => ?_)
    · obtain ⟨s1, hd⟩ := hs
      obtain ⟨rfl, c, hc, rfl⟩ := hy
      obtain ⟨k, hk, ek⟩ := wd_at hc
      rw [ek]
      have hi2 : i < sizeLine := Nat.lt_of_lt_of_le hi (by rw [wd_size]; exact wd_len x)
      walk_at "rd"
      exact lc_end hD s1 hd hi2 (Same.refl _) (by rw [hk]; rfl)
    · obtain ⟨s1, hd⟩ := hs
      walk_at "rd"
      rw [wd_size, range_map (f := fun k => V.int (r.per k))] at hd
      refine r_sum (ns := x.ks.map r.per) (SqL.of (by rw [hd, List.map_map]; rfl)) ?_
      exact q _ s1
theorem u_wp {H : Hp} {Q : VK} {E : XK} {a : Addr} {r : Rl} {x : Wd} (h : SqT K H a r.vs) (q : ∀ H', Same H H' → Q (.int (x.per r)) H') : spWp K [.ref a, .str x.str] H Q E := ⟨a, r, x, rfl, h, q⟩
end
end
local macro_rules | `(tactic| walk_at "r1") => `(tactic| first
  | with_reducible refine u_int ?_
  | with_reducible refine u_int1 ?_
  | ((with_reducible refine' u_one ?e0 ?_); (case e0 => walk_at "hp"))
  | ((with_reducible refine' u_len ?e0 ?_); (case e0 => walk_at "hp")))
local macro_rules | `(tactic| walk_at "r1") => `(tactic| first
  | ((with_reducible refine' u_per ?e0 ?_); (case e0 => walk_at "hp"))
  | with_reducible refine u_ot ?_)
local macro_rules | `(tactic| walk_at "r1") => `(tactic| first
  | ((with_reducible refine' u_ch ?e0 ?_); (case e0 => walk_at "hp")))

section
section
variable {P : Program} {w : World} {K : PySem.W.Frag} {mg : Str → Option Value} {base : Heap}
/-! ### checks of rules and records -/
theorem rem_in (x : Rm) : decide (x.str ∈ (["none", "press", "held"] : List Str)) = true := by cases x <;> decide +kernel
theorem both_in (x : Bt) : decide (x.str ∈ (["turn", "stay", "s", "l"] : List Str)) = true := by cases x <;> decide +kernel
theorem kd_in (x : Kd) : decide (x.str ∈ (["s", "l"] : List Str)) = true := by cases x <;> decide +kernel
def spFlags (K : PySem.W.Frag) : Sp := fun vs H Q _ => ∃ (a : Addr) (r : Rl), vs = [.ref a] ∧ SqT K H a r.vs ∧ r.Ok ∧ ∀ p H', Same H H' → H' p = some (.lst (List.replicate 7 (.bl true))) → Q (.ref p) H'
theorem ok_rules_flags (T : Txt K mg) : C8.Cal P w K mg base 2 "rules_flags" (spFlags K) [] := by
  refine calD (D_rules_flags T) (T_rules_flags T) sc_rules_flags (fun _ _ _ _ _ _ us hl => match us, hl with | [_], _ => rfl) (fun vs H Q E h => ?_) (fun cdv A outer s H vs Q E hr h => ?_)
  · obtain ⟨_, _, rfl, _⟩ := h
    rfl
  · have hu := hu_of hr
    refine ⟨_, (pss_cons (ps_setLc (i := 1) (own := [("item", 2)]) rfl sc_rules_flags.nd rfl rfl (sw_true rfl rfl rfl (by decide +kernel)) (pi_tup (pe_slice sl_tup (pv 0) po_none (po_some pe_int))) (blkOk_by (own := [("item", 2)]) (N := ["value", "found", "item"]) (sc := defScope s_rules_flags) (by decide +kernel)) (fun _ _ _ _ _ => (pg_name (i := 2) sc_rules_flags.nd rfl (Or.inl rfl))) (fun _ _ _ _ _ => pts_nil) (fun _ _ _ _ _ => (C8.pe_c (ok_is_integer T) hr (by decide) rfl (pa_cons (pv 2) (pa_cons pe_int pa_nil)))))
      (pss_cons (ps_expr (pe_bm PySem.F.plainAttrs_list PySem.F.slot_list_append PySem.F.type_list_append mt_append (pv 1) (pa_cons (C8.pe_c (ok_is_integer T) hr (by decide) rfl (pa_cons (pe_ix ix_tup (pv 0) pe_int (fun _ _ => rfl)) (pa_cons pe_int pa_nil))) pa_nil)))
      (pss_one (ps_ret (pe_lst (StX.pa_star (pv 1) (pa_cons (C8.pe_c (ok_is_one_of T) hr (by decide) rfl (pa_cons (pe_ix ix_tup (pv 0) pe_int (fun _ _ => rfl)) (pa_cons (pe_glob (v := .ref (He.ga K "REMEMBERS")) rfl (T_REMEMBERS T) rfl) pa_nil))) (pa_cons (pe_callB call_isi (by rfl) (T_isinstance T) (by decide +kernel) (pa_cons (pe_ix ix_tup (pv 0) pe_int (fun _ _ => rfl)) (pa_cons (pe_bltn (v := .ty "bool") (u := .type "bool") (by rfl) (T_bool T) (by decide +kernel) rfl) pa_nil))) (pa_cons (C8.pe_c (ok_is_one_of T) hr (by decide) rfl (pa_cons (pe_ix ix_tup (pv 0) pe_int (fun _ _ => rfl)) (pa_cons (pe_glob (v := .ref (He.ga K "PREFERENCES")) rfl (T_PREFERENCES T) rfl) pa_nil))) pa_nil))))))))), ?_⟩
    walk_at "cx"
    obtain ⟨a, r, rfl, h1, ok, q⟩ := h
    walk_at "rd"
    rename_i t ht D hD
    have s0 : Same H (upd H t (.tup (cutV r.vs none (some 3)))) := Same.new ht
    refine lc_it walk_tup (fun i H' => Same (upd H t (.tup (cutV r.vs none (some 3)))) H' ∧ H' D = some (.lst ((List.range i).map fun i => V.bl true))) (lc_0 hD) (fun _ _ _ z => SqT.of (z.1 _ _ upd_same)) (fun i y Ha Hb hi hs hy => ?_) (fun Ha hs => ?_)
    · obtain ⟨s1, hd⟩ := hs
      obtain ⟨rfl, hc⟩ := hy
      have hi2 : i < sizeLine := Nat.lt_of_lt_of_le hi (show 3 ≤ sizeLine by decide)
      match i, hi, hc with
      | 0, _, hc =>
        obtain rfl := Option.some.inj hc
        walk_at "rd"
        exact lc_end hD s1 hd hi2 (Same.refl _) (by rw [decide_eq_true ok.s1])
      | 1, _, hc =>
        obtain rfl := Option.some.inj hc
        walk_at "rd"
        exact lc_end hD s1 hd hi2 (Same.refl _) (by rw [decide_eq_true ok.l1])
      | 2, _, hc =>
        obtain rfl := Option.some.inj hc
        walk_at "rd"
        exact lc_end hD s1 hd hi2 (Same.refl _) (by rw [decide_eq_true ok.p1])
      | n + 3, hi, _ => exact absurd (show n + 3 < 3 from hi) (by omega)
    · obtain ⟨s1, hd⟩ := hs
      have s2 : Same H Ha := s0.trans s1
      have hDH : H D = none := s0.free hD
      have s3 : ∀ o, Same H (upd Ha D o) := fun o => Same.mut s2 hDH
      have hR : ∀ o, SqT K (upd Ha D o) (He.ga K "REMEMBERS") ((["none", "press", "held"] : List Str).map V.str) := fun o => X_REMEMBERS T _
      have hF : ∀ o, SqT K (upd Ha D o) (He.ga K "PREFERENCES") ((["turn", "stay", "s", "l"] : List Str).map V.str) := fun o => X_PREFERENCES T _
      walk_at "rd"
      refine u_one (hR _) ?_
      walk_at "rd"
      refine u_one (hF _) ?_
      walk_at "rd"
      rename_i p hp
      refine q _ _ ((s3 _).trans (Same.new hp)) ?_
      rw [upd_same, rem_in, both_in, decide_eq_true ok.d0]
      rfl
theorem u_flags {H : Hp} {Q : VK} {E : XK} {a : Addr} {r : Rl} (h : SqT K H a r.vs) (ok : r.Ok) (q : ∀ p H', Same H H' → H' p = some (.lst (List.replicate 7 (.bl true))) → Q (.ref p) H') : spFlags K [.ref a] H Q E := ⟨a, r, rfl, h, ok, q⟩
def spReqR (K : PySem.W.Frag) : Sp := fun vs H Q _ => ∃ (a : Addr) (r : Rl), vs = [.ref a] ∧ SqT K H a r.vs ∧ r.Ok ∧ ∀ H', Same H H' → Q .non H'
theorem ok_require_rules (T : Txt K mg) : C8.Cal P w K mg base 3 "require_rules" (spReqR K) [] := by
  refine calD (D_require_rules T) (T_require_rules T) sc_require_rules (fun _ _ _ _ _ _ us hl => match us, hl with | [_], _ => rfl) (fun vs H Q E h => ?_) (fun cdv A outer s H vs Q E hr h => ?_)
  · obtain ⟨_, _, rfl, _⟩ := h
    rfl
  · have hu := hu_of hr
    refine ⟨_, (pss_cons (ps_if (PW.pt (pw_or (pt_not (pt_val (pe_callB call_isi (by rfl) (T_isinstance T) (by decide +kernel) (pa_cons (pv 0) (pa_cons (pe_bltn (v := .ty "tuple") (u := .type "tuple") (by rfl) (T_tuple T) (by decide +kernel) rfl) pa_nil))))) (pw_or1 (pt_cmpR op_ne (pe_callB cq_len (by rfl) (T_len T) PySem.boot_len (pa_cons (pv 0) pa_nil)) pe_int (nomark _)))))
      (pss_one ps_never)
      pss_nil)
      (pss_cons (ps_set (i := 1) sc_require_rules.nd rfl (Or.inl rfl) (C8.pe_c (ok_rules_flags T) hr (by decide) rfl (pa_cons (pv 0) pa_nil)))
      (pss_one (ps_if (pt_cmpR op_in_seq pe_bl (pv 1) (by rfl))
      (pss_one ps_never)
      pss_nil)))), ?_⟩
    walk_at "cx"
    obtain ⟨a, r, rfl, h1, ok, q⟩ := h
    walk_at "rd"
    refine u_flags h1 ok fun p H' s1 hp => ?_
    walk_at "rd"
    exact q _ s1
theorem u_reqR {H : Hp} {Q : VK} {E : XK} {a : Addr} {r : Rl} (h : SqT K H a r.vs) (ok : r.Ok) (q : ∀ H', Same H H' → Q .non H') : spReqR K [.ref a] H Q E := ⟨a, r, rfl, h, ok, q⟩
/-! records -/
def spEvt (K : PySem.W.Frag) : Sp := fun vs H Q _ => ∃ (a : Addr) (e : Ev), vs = [.ref a] ∧ SqT K H a (evV e) ∧ Q (.bl true) H
theorem ok_is_event (T : Txt K mg) : C8.Cal P w K mg base 2 "is_event" (spEvt K) [] := by
  refine calD (D_is_event T) (T_is_event T) sc_is_event (fun _ _ _ _ _ _ us hl => match us, hl with | [_], _ => rfl) (fun vs H Q E h => ?_) (fun cdv A outer s H vs Q E hr h => ?_)
  · obtain ⟨_, _, rfl, _⟩ := h
    rfl
  · have hu := hu_of hr
    refine ⟨_, (pss_cons (ps_if (PW.pt (pw_or (pt_not (pt_val (pe_callB call_isi (by rfl) (T_isinstance T) (by decide +kernel) (pa_cons (pv 0) (pa_cons (pe_bltn (v := .ty "tuple") (u := .type "tuple") (by rfl) (T_tuple T) (by decide +kernel) rfl) pa_nil))))) (pw_or1 (pt_cmpR op_ne (pe_callB cq_len (by rfl) (T_len T) PySem.boot_len (pa_cons (pv 0) pa_nil)) pe_int (nomark _)))))
      (pss_one (ps_ret pe_bl))
      pss_nil)
      (pss_one (ps_ret (pe_and (C8.pe_c (ok_is_integer1 T) hr (by decide) rfl (pa_cons (pe_ix ix_tup (pv 0) pe_int (fun _ _ => rfl)) pa_nil)) (pe_and (C8.pe_c (ok_is_one_of T) hr (by decide) rfl (pa_cons (pe_ix ix_tup (pv 0) pe_int (fun _ _ => rfl)) (pa_cons (pe_glob (v := .ref (He.ga K "LEVERS")) rfl (T_LEVERS T) rfl) pa_nil))) (pe_one (pe_callB call_isi (by rfl) (T_isinstance T) (by decide +kernel) (pa_cons (pe_ix ix_tup (pv 0) pe_int (fun _ _ => rfl)) (pa_cons (pe_bltn (v := .ty "bool") (u := .type "bool") (by rfl) (T_bool T) (by decide +kernel) rfl) pa_nil))))))))), ?_⟩
    walk_at "cx"
    obtain ⟨a, ⟨t, k, d⟩, rfl, h1, q⟩ := h
    have hL := X_LEVERS T H
    walk_at "rd"
    refine u_one (ws := ["s", "l"]) hL ?_
    rw [kd_in]
    walk_at "rd"
    exact q
theorem u_evt {H : Hp} {Q : VK} {E : XK} {a : Addr} {e : Ev} (h : SqT K H a (evV e)) (q : Q (.bl true) H) : spEvt K [.ref a] H Q E := ⟨a, e, rfl, h, q⟩
local macro_rules | `(tactic| walk_at "r1") => `(tactic| first
  | ((with_reducible refine' u_evt ?e0 ?_); (case e0 => walk_at "hp")))

/-- a record: ticks that do not fall, levers by turns -/
def recGo : Option Int → List Kd → List Ev → Bool
  | _, down, [] => down.isEmpty
  | last, down, e :: es => (match last with | none => true | some t => decide (t ≤ e.1)) && (e.2.2 != decide (e.2.1 ∈ down)) &&
    recGo (some e.1) (if e.2.2 then down ++ [e.2.1] else down.filter fun o => decide (o ≠ e.2.1)) es
def RecOk (es : List Ev) : Prop := recGo none [] es = true ∧ es.length ≤ 200
def lastV : Option Int → V
  | none => .non
  | some t => .int t
theorem kv_flat {down : List Kd} : (down.map kv).all flatV = true := by
  rw [List.all_map]
  exact List.all_eq_true.mpr fun _ _ => rfl
theorem kd_inj : ∀ {a b : Kd}, a.str = b.str → a = b
  | .s, .s, _ => rfl
  | .l, .l, _ => rfl
  | .s, .l, h => absurd h (by decide +kernel)
  | .l, .s, h => absurd h (by decide +kernel)
theorem kv_eq {a b : Kd} : decide (kv a = kv b) = decide (a = b) := by
  by_cases h : a = b
  · rw [decide_eq_true h, h]
    exact decide_eq_true rfl
  · rw [decide_eq_false h]
    exact decide_eq_false fun e => h (kd_inj (V.str.inj e))
theorem in_kv {k : Kd} {down : List Kd} : inV (kv k) (down.map kv) = decide (k ∈ down) := by
  have e : down.map kv = (down.map Kd.str).map V.str := by rw [List.map_map]; rfl
  rw [e, in_words]
  by_cases h : k ∈ down
  · rw [decide_eq_true h, decide_eq_true (List.mem_map_of_mem h)]
  · rw [decide_eq_false h, decide_eq_false fun z => by
      obtain ⟨x, hx, e⟩ := List.mem_map.mp z
      exact h (kd_inj e ▸ hx)]
def spFault (K : PySem.W.Frag) : Sp := fun vs H Q _ => ∃ (a : Addr) (xs : List V) (es : List Ev), vs = [.ref a] ∧ SqL K H a xs ∧ Rows H evV xs es ∧ RecOk es ∧ ∀ p H', Same H H' → H' p = some (.lst []) → Q (.ref p) H'
theorem ok_fault_of_record (T : Txt K mg) : C8.Cal P w K mg base 3 "fault_of_record" (spFault K) [] := by
  refine calD (D_fault_of_record T) (T_fault_of_record T) sc_fault_of_record (fun _ _ _ _ _ _ us hl => match us, hl with | [_], _ => rfl) (fun vs H Q E h => ?_) (fun cdv A outer s H vs Q E hr h => ?_)
  · obtain ⟨_, _, _, rfl, _⟩ := h
    rfl
  · have hu := hu_of hr
    refine ⟨_, (pss_cons (ps_if (PW.pt (pw_or (pt_not (pt_val (pe_callB call_isi (by rfl) (T_isinstance T) (by decide +kernel) (pa_cons (pv 0) (pa_cons (pe_bltn (v := .ty "list") (u := .type "list") (by rfl) (T_list T) (by decide +kernel) rfl) pa_nil))))) (pw_or1 (pt_cmpR op_gt (pe_callB cq_len (by rfl) (T_len T) PySem.boot_len (pa_cons (pv 0) pa_nil)) (C8.pe_gc rfl (T_MOST_EVENTS T)) (nomark _)))))
      (pss_one (ps_ret (pe_lst (pa_cons pe_non pa_nil))))
      pss_nil)
      (pss_cons (ps_par rfl sc_fault_of_record.nd (i := 1) (j := 2) rfl rfl (by decide) rfl rfl (pa_cons (pe_lst pa_nil) (pa_cons pe_non pa_nil)) rfl)
      (pss_cons (ps_for PassesOwn.never rfl (pi_enum (by rfl) (T_enumerate T) (pa_cons (pv 0) pa_nil)) (pg_tup (n := 2) rfl (pgs_cons (pg_name (i := 3) sc_fault_of_record.nd rfl (Or.inl rfl)) (pgs_cons (pg_name (i := 4) sc_fault_of_record.nd rfl (Or.inl rfl)) pgs_nil)))
      (pss_cons (ps_if (pt_not (pt_val (C8.pe_c (ok_is_event T) hr (by decide) rfl (pa_cons (pv 4) pa_nil))))
      (pss_one (ps_ret (pe_lst (pa_cons (pv 3) pa_nil))))
      pss_nil)
      (pss_cons (ps_asg (pv 4) (pg_tup (n := 3) rfl (pgs_cons (pg_name (i := 5) sc_fault_of_record.nd rfl (Or.inl rfl)) (pgs_cons (pg_name (i := 6) sc_fault_of_record.nd rfl (Or.inr rfl)) (pgs_cons (pg_name (i := 7) sc_fault_of_record.nd rfl (Or.inl rfl)) pgs_nil)))))
      (pss_cons (ps_if (PW.pt (pw_or (PW.pt (pw_and (pt_cmpR oq_notN (pv 2) pe_non (nomark _)) (pw_and1 (pt_cmpR op_lt (pv 5) (pv 2) (nomark _))))) (pw_or1 (pt_cmpR op_eq (pv 7) (pe_cmpR op_in_seq (pv 6) (pv 1) (by rfl)) (nomark _)))))
      (pss_one (ps_ret (pe_lst (pa_cons (pv 3) pa_nil))))
      pss_nil)
      (pss_cons (ps_set (i := 1) sc_fault_of_record.nd rfl (Or.inl rfl) (pe_ifExp (pt_val (pv 7)) (pe_lst (StX.pa_star (pv 1) (pa_cons (pv 6) pa_nil))) (pe_lc (own := [("other", 8)]) rfl sc_fault_of_record.nd (pi_list (pv 1)) (blkOk_by (own := [("other", 8)]) (N := ["value", "down", "last", "index", "item", "tick", "lever", "is_down", "other"]) (sc := defScope s_fault_of_record) (by decide +kernel)) (fun _ _ _ _ _ => (pg_name (i := 8) sc_fault_of_record.nd rfl (Or.inl rfl))) (fun _ _ _ _ _ => (pts_one (pt_cmpR op_ne (pv 8) (pv 6) (nomark _)))) (fun _ _ _ _ _ => (pv 8)))))
      (pss_one (ps_set (i := 2) sc_fault_of_record.nd rfl (Or.inl rfl) (pv 5))))))))
      (pss_one (ps_ret (pe_ifExp (pt_cmpR (op_eqD hr.units) (pv 1) (pe_lst pa_nil) (nomark _)) (pe_lst pa_nil) (pe_lst (pa_cons (pe_callB cq_len (by rfl) (T_len T) PySem.boot_len (pa_cons (pv 0) pa_nil)) pa_nil)))))))), ?_⟩
    walk_at "cx"
    obtain ⟨a, xs, es, rfl, h1, hR, ok, q⟩ := h
    have hlen : decide (200 < (xs.length : Int)) = false := by
      rw [hR.len]
      exact decide_eq_false (by have := ok.2; omega)
    walk_at "rd"
    rename_i d0 hd0
    refine for_it walk_enum (fun i σ Ha => ∃ (d : Addr) (down : List Kd) (last : Option Int) (v3 v4 v5 v6 v7 v8 : Option V), σ = [some (.ref a), some (.ref d), some (lastV last), v3, v4, v5, v6, v7, v8] ∧ Same H Ha ∧ Ha d = some (.lst (down.map kv)) ∧ recGo last down (es.drop i) = true ∧ down.length ≤ i)
      ⟨d0, [], none, none, none, none, none, none, none, rfl, Same.new hd0, upd_same, ok.1, Nat.le_refl _⟩ (fun i σ Ha _ z => by obtain ⟨_, _, _, _, _, _, _, _, _, _, s1, _⟩ := z; exact s1.seq h1) ?_ ?_
    · rintro i y σ Ha Hb hi ⟨d, down, last, v3, v4, v5, v6, v7, v8, rfl, s1, hd, hg, hdl⟩ ⟨T', x, y', rfl, hT, rfl, hx, hy⟩
      obtain rfl := Option.some.inj hx
      obtain ⟨ea, e, rfl, he, hea⟩ := hR.get hy
      rw [drop_cons he] at hg
      have s2 : Same H (upd Ha T' (.tup [V.int (i : Nat), V.ref ea])) := s1.trans (Same.new hT)
      have hE : SqT K (upd Ha T' (.tup [V.int (i : Nat), V.ref ea])) ea (evV e) := SqT.of (s2 _ _ hea)
      have hd2 : upd Ha T' (.tup [V.int (i : Nat), V.ref ea]) d = some (.lst (down.map kv)) := Same.new hT _ _ hd
      have hfl : (down.map kv).all flatV = true := kv_flat
      simp only [recGo, Bool.and_eq_true] at hg
      obtain ⟨⟨g1, g2⟩, g3⟩ := hg
      have hne : decide (V.bl e.2.2 = V.bl (inV (kv e.2.1) (down.map kv))) = false := by
        rw [in_kv]
        refine decide_eq_false fun z => ?_
        have z2 := V.bl.inj z
        rw [z2] at g2
        simp at g2
      have hlt : ∀ t0, last = some t0 → decide (e.1 < t0) = false := fun t0 e3 => by
        rw [e3] at g1
        exact decide_eq_false (by have := of_decide_eq_true g1; omega)
      have hi3 : i < 200 := by
        have h5 := (List.getElem?_eq_some_iff.mp he).1
        have h6 := ok.2
        omega
      have hds : (down.map kv ++ [kv e.2.1]).length ≤ sizeLine := by
        rw [List.length_append, List.length_map]
        exact Nat.le_trans (show down.length + 1 ≤ 1000 by omega) (by decide)
      have hfin : ∀ (nx : L2.St → Hp → Prop) (rt : VK) (bk ct : L2.St → Hp → Prop) (l : V) (v3 v4 v8 : Option V) (hnx : ∀ σ Ha, (∃ (d : Addr) (down : List Kd) (last : Option Int) (v3 v4 v5 v6 v7 v8 : Option V), σ = [some (.ref a), some (.ref d), some (lastV last), v3, v4, v5, v6, v7, v8] ∧ Same H Ha ∧ Ha d = some (.lst (down.map kv)) ∧ recGo last down (es.drop (i + 1)) = true ∧ down.length ≤ i + 1) → nx σ Ha),
          if e.2.2 = true then tLst (StX.tStar K (tVar 1) (tCons (tVar 6) tNil)) [some (.ref a), some (.ref d), some l, v3, v4, some (.int e.1), some (kv e.2.1), some (.bl e.2.2), v8] (upd Ha T' (.tup [V.int (i : Nat), V.ref ea])) fun x H1 => gName 1 x [some (.ref a), some (.ref d), some l, v3, v4, some (.int e.1), some (kv e.2.1), some (.bl e.2.2), v8] H1 (tAsg (tVar 5) (gName 2) { nx := nx, rt := rt, bk := bk, ct := ct })
          else tLc (iList K (tVar 1)) (gName 8) (tTest (tOp rNe (tVar 8) (tVar 6))) (tVar 8) [8] [some (.ref a), some (.ref d), some l, v3, v4, some (.int e.1), some (kv e.2.1), some (.bl e.2.2), v8] (upd Ha T' (.tup [V.int (i : Nat), V.ref ea])) fun x H1 => gName 1 x [some (.ref a), some (.ref d), some l, v3, v4, some (.int e.1), some (kv e.2.1), some (.bl e.2.2), v8] H1 (tAsg (tVar 5) (gName 2) { nx := nx, rt := rt, bk := bk, ct := ct }) := by
        intro nx rt bk ct l v3 v4 v8 hnx
        cases hdn : e.2.2 with
        | true =>
          rw [hdn, if_pos rfl] at g3
          refine r_ifT rfl ?_
          walk_at "rd"
          refine ⟨hds, fun p hp => ?_⟩
          walk_at "rd"
          refine hnx _ _ ⟨p, down ++ [e.2.1], some e.1, _, _, _, _, _, _, rfl, s2.trans (Same.new hp), ?_, g3, by rw [List.length_append]; exact Nat.succ_le_succ hdl⟩
          rw [upd_same, List.map_append]
          rfl
        | false =>
          rw [hdn, if_neg Bool.false_ne_true] at g3
          refine r_ifF rfl ?_
          walk_at "rd"
          rename_i N hN
          refine lc_it walk_list (fun j H' => Same (upd Ha T' (.tup [V.int (i : Nat), V.ref ea])) H' ∧ H' N = some (.lst (((down.take j).filter fun o => decide (o ≠ e.2.1)).map kv))) ⟨Same.new hN, upd_same⟩ (fun _ _ _ z => SqL.of (z.1 _ _ hd2)) (fun j y Hc Hd hj hs hy => ?_) (fun Hc hs => ?_)
          · obtain ⟨s3, h3⟩ := hs
            obtain ⟨rfl, hc⟩ := hy
            rw [List.getElem?_map] at hc
            cases ek : down[j]? with
            | none =>
              rw [ek] at hc
              cases hc
            | some o =>
              rw [ek] at hc
              obtain rfl := Option.some.inj hc
              have hj2 : j < sizeLine := Nat.lt_of_lt_of_le hj (by rw [List.length_map]; exact Nat.le_trans (show down.length ≤ 1000 by omega) (by decide))
              walk_at "rd"
              rw [kv_eq]
              by_cases hok : o = e.2.1
              · refine r_ifF (by rw [decide_eq_true hok]; rfl) ?_
                exact lc_drop s3 h3 ek (by rw [hok]; simp)
              · refine r_ifT (by rw [decide_eq_false hok]; rfl) ?_
                walk_at "rd"
                exact lc_keep hN s3 h3 hj2 ek (Same.refl _) (by simp [hok]) rfl
          · obtain ⟨s3, h3⟩ := hs
            walk_at "rd"
            rw [List.length_map, List.take_length] at h3
            exact hnx _ _ ⟨N, _, some e.1, _, _, _, _, _, _, rfl, s2.trans s3, h3, g3, Nat.le_trans (List.length_filter_le _ _) (Nat.le_succ_of_le hdl)⟩
      cases last with
      | none =>
        walk_at "rd"
        refine hfin _ _ _ _ _ _ _ _ ?_
        exact fun _ _ z => z
      | some t0 =>
        have h0 := hlt t0 rfl
        rw [show lastV (some t0) = V.int t0 from rfl]
        walk_at "rd"
        refine hfin _ _ _ _ _ _ _ _ ?_
        exact fun _ _ z => z
    · rintro σ Ha ⟨d, down, last, v3, v4, v5, v6, v7, v8, rfl, s1, hd, hg, hdl⟩
      rw [hR.len, List.drop_length] at hg
      have hdn : down = [] := List.isEmpty_iff.mp hg
      subst hdn
      walk_at "rd"
      rename_i p hp
      refine r_eqNil (xs := []) (SqL.of (Same.new hp _ _ hd)) (SqL.of upd_same) ⟨[], .nil, rfl, by decide⟩ ?_
      walk_at "rd"
      rename_i p2 hp2
      exact q _ _ (s1.trans ((Same.new hp).trans (Same.new hp2))) upd_same
end
end
local macro_rules | `(tactic| walk_at "r1") => `(tactic| first
  | ((with_reducible refine' u_evt ?e0 ?_); (case e0 => walk_at "hp")))

local macro_rules | `(tactic| walk_at "r1") => `(tactic| first
  | ((with_reducible refine' r_fldI ?e0 ?e1 ?e2 ?e3 ?_); (case e0 => first | assumption | with_reducible exact upd_same | walk_at "fh"); (case e1 => assumption); (case e2 => assumption); (case e3 => rfl))
  | ((with_reducible refine' r_methI ?e0 ?e3 ?_); (case e0 => first | assumption | with_reducible exact upd_same | walk_at "fh"); (case e3 => rfl)))
local macro_rules | `(tactic| walk_at "fh") => `(tactic| fail)

section
section
variable {P : Program} {w : World} {K : PySem.W.Frag} {mg : Str → Option Value} {base : Heap}
def spReqRec (K : PySem.W.Frag) : Sp := fun vs H Q _ => ∃ (a : Addr) (xs : List V) (es : List Ev), vs = [.ref a] ∧ SqL K H a xs ∧ Rows H evV xs es ∧ RecOk es ∧ ∀ H', Same H H' → Q .non H'
theorem u_fault {H : Hp} {Q : VK} {E : XK} {a : Addr} {xs : List V} {es : List Ev} (h1 : SqL K H a xs) (h2 : Rows H evV xs es) (h3 : RecOk es) (q : ∀ p H', Same H H' → H' p = some (.lst []) → Q (.ref p) H') : spFault K [.ref a] H Q E := ⟨a, xs, es, rfl, h1, h2, h3, q⟩
theorem ok_require_record (T : Txt K mg) : C8.Cal P w K mg base 4 "require_record" (spReqRec K) [] := by
  refine calD (D_require_record T) (T_require_record T) sc_require_record (fun _ _ _ _ _ _ us hl => match us, hl with | [_], _ => rfl) (fun vs H Q E h => ?_) (fun cdv A outer s H vs Q E hr h => ?_)
  · obtain ⟨_, _, _, rfl, _⟩ := h
    rfl
  · have hu := hu_of hr
    refine ⟨_, (pss_one (ps_for PassesOwn.never rfl (pi_list (C8.pe_c (ok_fault_of_record T) hr (by decide) rfl (pa_cons (pv 0) pa_nil))) (pg_name (i := 1) sc_require_record.nd rfl (Or.inl rfl))
      (pss_one ps_never))), ?_⟩
    walk_at "cx"
    obtain ⟨a, xs, es, rfl, h1, hR, ok, q⟩ := h
    walk_at "rd"
    refine u_fault h1 hR ok fun p H' s1 hp => ?_
    walk_at "rd"
    refine for_it walk_list (fun i σ Ha => i = 0 ∧ Ha = H') ⟨rfl, rfl⟩ (fun i σ Ha _ z => by rw [z.2]; exact SqL.of hp) (fun i x σ Ha Hb hi _ _ => absurd hi (Nat.not_lt_zero _)) ?_
    rintro σ Ha ⟨_, rfl⟩
    walk_at "rd"
    exact q _ s1
theorem u_reqRec {H : Hp} {Q : VK} {E : XK} {a : Addr} {xs : List V} {es : List Ev} (h1 : SqL K H a xs) (h2 : Rows H evV xs es) (h3 : RecOk es) (q : ∀ H', Same H H' → Q .non H') : spReqRec K [.ref a] H Q E := ⟨a, xs, es, rfl, h1, h2, h3, q⟩
def spReqL : Sp := fun vs H Q _ => ∃ k, vs = [kv k] ∧ Q .non H
theorem ok_require_lever (T : Txt K mg) : C8.Cal P w K mg base 2 "require_lever" spReqL [] := by
  refine calD (D_require_lever T) (T_require_lever T) sc_require_lever (fun _ _ _ _ _ _ us hl => match us, hl with | [_], _ => rfl) (fun vs H Q E h => ?_) (fun cdv A outer s H vs Q E hr h => ?_)
  · obtain ⟨_, rfl, _⟩ := h
    rfl
  · have hu := hu_of hr
    refine ⟨_, (pss_one (ps_if (pt_not (pt_val (C8.pe_c (ok_is_one_of T) hr (by decide) rfl (pa_cons (pv 0) (pa_cons (pe_glob (v := .ref (He.ga K "LEVERS")) rfl (T_LEVERS T) rfl) pa_nil)))))
      (pss_one ps_never)
      pss_nil)), ?_⟩
    walk_at "cx"
    obtain ⟨k, rfl, q⟩ := h
    have hL := X_LEVERS T H
    walk_at "rd"
    refine u_one (ws := ["s", "l"]) hL ?_
    rw [kd_in]
    walk_at "rd"
    exact q
theorem u_reqL {H : Hp} {Q : VK} {E : XK} {k : Kd} (q : Q .non H) : spReqL [kv k] H Q E := ⟨k, rfl, q⟩
theorem wd_in (x : Wd) : decide (x.str ∈ (["s", "l", "sl", "ls"] : List Str)) = true := by cases x <;> (rename_i k; cases k <;> decide +kernel)
/-- a word and how often, at least once -/
abbrev kiV (x : Wd × Int) : List V := [.str x.1.str, .int x.2]
/-! ### blocks -/
abbrev partV (p : Part) : List V := [kv p.1, .int p.2.1, .bl p.2.2]
def okv : Option Kd → V
  | none => .non
  | some k => kv k
/-- a Blocks object at b, with the parts ps (the last one ahead); F: what was there before it -/
structure Blk (K : PySem.W.Frag) (F H : Hp) (b dx L : Addr) (xs : List V) (ps : List Part) : Prop where
  s : Same F H
  b0 : F b = none
  L0 : F L = none
  hb : H b = some (.ins (He.ga K "Blocks") dx [("kept_parts", .ref L)])
  hL : H L = some (.lst xs)
  hR : Rows H partV xs ps.reverse
def BlkAt (K : PySem.W.Frag) (F H : Hp) (b : Addr) (ps : List Part) : Prop := ∃ dx L xs, Blk K F H b dx L xs ps
theorem kd_dat (k : Kd) : datV (kv k) = true := by cases k <;> decide +kernel
theorem part_dat (p : Part) : (partV p).all datV = true := by
  show (datV (kv p.1) && (datV (.int p.2.1) && (datV (.bl p.2.2) && true))) = true
  rw [kd_dat]
  rfl
theorem Blk.new {F H : Hp} {b dx L p : Addr} {xs : List V} {ps : List Part} {o : HO} (B : Blk K F H b dx L xs ps) (hp : H p = none) : Blk K F (upd H p o) b dx L xs ps :=
  ⟨Same.trans B.s (Same.new hp), B.b0, B.L0, Same.new hp _ _ B.hb, Same.new hp _ _ B.hL, B.hR.ex (Same.new hp)⟩
theorem Blk.set {F H : Hp} {b dx L : Addr} {xs ys : List V} {ps qs : List Part} (B : Blk K F H b dx L xs ps) (h : Rows H partV ys qs.reverse) : Blk K F (upd H L (.lst ys)) b dx L ys qs :=
  ⟨Same.mut B.s B.L0, B.b0, B.L0, by rw [upd_ne (ne_of_o B.hb B.hL (by simp))]; exact B.hb, upd_same, h.tup (STup.mutL B.hL)⟩
theorem Blk.cut {F H : Hp} {b dx L : Addr} {xs : List V} {p : Part} {ps : List Part} (B : Blk K F H b dx L xs (p :: ps)) : ∃ ys a, xs = ys ++ [.ref a] ∧ H a = some (.tup (partV p)) ∧ Blk K F (upd H L (.lst ys)) b dx L ys ps := by
  have h := B.hR
  rw [List.reverse_cons] at h
  obtain ⟨ys, a, rfl, hY, ha⟩ := h.last
  exact ⟨ys, a, rfl, ha, B.set hY⟩
theorem Blk.push {F H : Hp} {b dx L t : Addr} {xs : List V} {p : Part} {ps : List Part} (B : Blk K F H b dx L xs ps) (ht : H t = some (.tup (partV p))) : Blk K F (upd H L (.lst (xs ++ [.ref t]))) b dx L (xs ++ [.ref t]) (p :: ps) :=
  B.set (by rw [List.reverse_cons]; exact B.hR.app (Rows.one ht))
theorem Blk.dat {F H : Hp} {b dx L : Addr} {xs : List V} {ps : List Part} (B : Blk K F H b dx L xs ps) : Dat K H xs := Dat.ofRows part_dat B.hR
theorem Blk.len {F H : Hp} {b dx L : Addr} {xs : List V} {ps : List Part} (B : Blk K F H b dx L xs ps) : xs.length = ps.length := by rw [B.hR.len, List.length_reverse]
def spBi (K : PySem.W.Frag) : Sp := fun vs H Q _ => ∃ (b dx : Addr) (F : Hp), vs = [.ref b] ∧ Same F H ∧ F b = none ∧ H b = some (.ins (He.ga K "Blocks") dx []) ∧ ∀ H', BlkAt K F H' b [] → Q .non H'
theorem ok_Blocks_init (T : Txt K mg) : C8.Mak P w K mg base 1 "Blocks" (He.ga K "Blocks") (spBi K) [] := by
  refine makD (K_Blocks T) (T_Blocks T) (D_Blocks_init T) sc_Blocks_init (fun _ _ _ _ _ _ us hl => match us, hl with | [_], _ => rfl) (fun vs H Q E h => ?_) (fun cdv A outer s H vs Q E hr h => ?_)
  · obtain ⟨_, _, _, rfl, _⟩ := h
    rfl
  · have hu := hu_of hr
    refine ⟨_, (pss_one (ps_fld (pv 0) (pe_lst pa_nil) rfl)), ?_⟩
    walk_at "cx"
    obtain ⟨b, dx, F, rfl, hF, hb0, hb, q⟩ := h
    have cB := C_Blocks T
    have nP := N_Blocks_kept_parts T
    walk_at "rd"
    rename_i L hL
    refine r_sfldI (by rw [upd_ne (ne_of_n hb hL)]; exact hb) cB nP (by decide) ?_
    walk_at "rd"
    have hLb : L ≠ b := fun e => ne_of_n hb hL e.symm
    refine q _ ⟨dx, L, [], Same.mut (hF.trans (Same.new hL)) hb0, hb0, Same.free' hF hL, upd_same, by rw [upd_ne hLb]; exact upd_same, .nil⟩
def spLk (K : PySem.W.Frag) : Sp := fun vs H Q _ => ∃ (b : Addr) (F : Hp) (ps : List Part), vs = [.ref b] ∧ BlkAt K F H b ps ∧ ∀ H', BlkAt K F H' b ps → Q (okv (lastKind ps)) H'
theorem BlkAt.new {F H : Hp} {b p : Addr} {ps : List Part} {o : HO} (h : BlkAt K F H b ps) (hp : H p = none) : BlkAt K F (upd H p o) b ps := by
  obtain ⟨dx, L, xs, s, b0, L0, hb, hL, hR⟩ := h
  exact ⟨dx, L, xs, Same.trans s (Same.new hp), b0, L0, Same.new hp _ _ hb, Same.new hp _ _ hL, hR.ex (Same.new hp)⟩
theorem ok_Blocks_last_kind (T : Txt K mg) : C8.Met P w K mg base 2 (He.ga K "Blocks") "last_kind" (spLk K) [] := by
  refine metD (C_Blocks T) (M_Blocks_last_kind T) (D_Blocks_last_kind T) sc_Blocks_last_kind (fun _ _ _ _ _ _ us hl => match us, hl with | [_], _ => rfl) (fun vs H Q E h => ?_) (fun cdv A outer s H vs Q E hr h => ?_)
  · obtain ⟨_, _, _, rfl, _⟩ := h
    rfl
  · have hu := hu_of hr
    refine ⟨_, (pss_cons (ps_if (pt_cmpR (op_eqD hr.units) (pe_fld (pv 0) rfl) (pe_lst pa_nil) (nomark _))
      (pss_one (ps_ret pe_non))
      pss_nil)
      (pss_cons (ps_asg (pe_ix ix_list (pe_fld (pv 0) rfl) (pe_un un_neg pe_int) (fun _ _ => rfl)) (pg_tup (n := 3) rfl (pgs_cons (pg_name (i := 1) sc_Blocks_last_kind.nd rfl (Or.inl rfl)) (pgs_cons (pg_name (i := 2) sc_Blocks_last_kind.nd rfl (Or.inl rfl)) (pgs_cons (pg_name (i := 3) sc_Blocks_last_kind.nd rfl (Or.inl rfl)) pgs_nil)))))
      (pss_one (ps_ret (pe_ifExp (PW.pt (pw_and (pt_val (pv 3)) (pw_and1 (pt_cmpR op_eq (pe_op op_mod (pv 2) pe_int) pe_int (nomark _))))) (C8.pe_c (ok_other_of T) hr (by decide) rfl (pa_cons (pv 1) pa_nil)) (pv 1)))))), ?_⟩
    walk_at "cx"
    obtain ⟨b, F, ps, rfl, hB, q⟩ := h
    obtain ⟨dx, L, xs, s, b0, L0, hb, hL, hR⟩ := id hB
    have cB := C_Blocks T
    have nP := N_Blocks_kept_parts T
    walk_at "rd"
    rename_i p hp
    refine r_eqNil (SqL.of (Same.new hp _ _ hL)) (SqL.of upd_same) (Dat.ofRows part_dat (hR.ex (Same.new hp))) ?_
    walk_at "rd"
    have q2 := q _ (hB.new (o := .lst []) hp)
    match ps, hR, q2 with
    | [], hR, q2 =>
      cases hR
      walk_at "rd"
      exact q2
    | (k, m, alt) :: r, hR, q2 =>
      rw [List.reverse_cons] at hR
      obtain ⟨ys, a, rfl, hY, ha⟩ := hR.last
      have hb' := Same.new (o := .lst []) hp _ _ hb
      have hL' := Same.new (o := .lst []) hp _ _ hL
      have ha' := Same.new (o := .lst []) hp _ _ ha
      refine r_ifF (by simp) ?_
      walk_at "rd"
      refine r_ixL (SqL.of hL') at_app ?_
      walk_at "rd"
      cases alt with
      | false =>
        walk_at "rd"
        exact q2
      | true =>
        walk_at "rd"
        refine r_I (by decide) ?_
        walk_at "rd"
        refine r_ite (fun e => ?_) (fun e => ?_)
        · walk_at "rd"
          have e2 := of_decide_eq_true e
          have e3 : m % 2 = 0 := V.int.inj e2
          have e4 : lastKind ((k, m, true) :: r) = some k.ot := by unfold lastKind; simp [e3]
          rw [e4] at q2
          exact q2
        · walk_at "rd"
          have e2 := of_decide_eq_false e
          have e3 : ¬ m % 2 = 0 := fun z => e2 (congrArg V.int z)
          have e4 : lastKind ((k, m, true) :: r) = some k := by unfold lastKind; simp [e3]
          rw [e4] at q2
          exact q2
theorem u_lk {H : Hp} {Q : VK} {E : XK} {b : Addr} {F : Hp} {ps : List Part} (h : BlkAt K F H b ps) (q : ∀ H', BlkAt K F H' b ps → Q (okv (lastKind ps)) H') : spLk K [.ref b] H Q E := ⟨b, F, ps, rfl, h, q⟩
end
end
local macro_rules | `(tactic| walk_at "fh") => `(tactic| first
  | exact Blk.hb (by assumption)
  | exact Blk.hb (Blk.new (by assumption) (by assumption)))
local macro_rules | `(tactic| walk_at "h0") => `(tactic| first
  | exact SqL.of (Blk.hL (by assumption))
  | exact Blk.hL (by assumption))

section
section
variable {P : Program} {w : World} {K : PySem.W.Frag} {mg : Str → Option Value} {base : Heap}
theorem tyL_of {H : Hp} {L : Addr} {xs : List V} (h : H L = some (.lst xs)) : tyV K "list" (.ref L) H := ty_lst (SqL.of h)
def spPa (K : PySem.W.Frag) : Sp := fun vs H Q _ => ∃ (b : Addr) (F : Hp) (k : Kd) (m : Int) (ps : List Part), vs = [.ref b, kv k, .int m] ∧ BlkAt K F H b ps ∧ ps.length < sizeLine ∧ ∀ H', BlkAt K F H' b (putAlt k m ps) → Q .non H'
theorem ok_Blocks_put_alternating (T : Txt K mg) : C8.Met P w K mg base 1 (He.ga K "Blocks") "put_alternating" (spPa K) [] := by
  refine metD (C_Blocks T) (M_Blocks_put_alternating T) (D_Blocks_put_alternating T) sc_Blocks_put_alternating (fun _ _ _ _ _ _ us hl => match us, hl with | [_, _, _], _ => rfl) (fun vs H Q E h => ?_) (fun cdv A outer s H vs Q E hr h => ?_)
  · obtain ⟨_, _, _, _, _, rfl, _⟩ := h
    rfl
  · have hu := hu_of hr
    refine ⟨_, (pss_one (ps_if (PW.pt (pw_and (pt_cmpR op_gt (pv 2) pe_int (nomark _)) (pw_and (pt_cmpR (op_neD hr.units) (pe_fld (pv 0) rfl) (pe_lst pa_nil) (nomark _)) (pw_and1 (pt_val (pe_ix ix_tup (pe_ix ix_list (pe_fld (pv 0) rfl) (pe_un un_neg pe_int) (fun _ _ => rfl)) pe_int (fun _ _ => rfl)))))))
      (pss_cons (ps_asg (pe_bm0 PySem.F.plainAttrs_list PySem.F.slot_list_pop PySem.F.type_list_pop mt_pop (pe_fld (pv 0) rfl)) (pg_tup (n := 3) rfl (pgs_cons (pg_name (i := 3) sc_Blocks_put_alternating.nd rfl (Or.inl rfl)) (pgs_cons (pg_name (i := 4) sc_Blocks_put_alternating.nd rfl (Or.inl rfl)) (pgs_cons (pg_name (i := 5) sc_Blocks_put_alternating.nd rfl (Or.inl rfl)) pgs_nil)))))
      (pss_one (ps_expr (pe_bm PySem.F.plainAttrs_list PySem.F.slot_list_append PySem.F.type_list_append mt_append (pe_fld (pv 0) rfl) (pa_cons (pe_tup (pa_cons (pv 3) (pa_cons (pe_op op_add (pv 4) (pv 2)) (pa_cons pe_bl pa_nil)))) pa_nil)))))
      (pss_one (ps_if (pt_cmpR op_gt (pv 2) pe_int (nomark _))
      (pss_one (ps_expr (pe_bm PySem.F.plainAttrs_list PySem.F.slot_list_append PySem.F.type_list_append mt_append (pe_fld (pv 0) rfl) (pa_cons (pe_tup (pa_cons (pv 1) (pa_cons (pv 2) (pa_cons pe_bl pa_nil)))) pa_nil))))
      pss_nil)))), ?_⟩
    walk_at "cx"
    obtain ⟨b, F, k, m, ps, rfl, ⟨dx, L, xs, B⟩, hl, q⟩ := h
    have cB := C_Blocks T
    have nP := N_Blocks_kept_parts T
    rcases Int.lt_or_le 0 m with e1 | e1
    · have e : decide (0 < m) = true := decide_eq_true e1
      rcases ps with _ | ⟨⟨f, b2, alt⟩, r⟩
      · obtain rfl : xs = [] := List.length_eq_zero_iff.mp B.len
        walk_at "rd"
        rename_i p hp
        have B1 := B.new (o := .lst []) hp
        refine r_neNil (SqL.of B1.hL) (SqL.of upd_same) B1.dat ?_
        walk_at "rd"
        rename_i t ht
        have B2 := B1.new (o := .tup (partV (k, m, true))) ht
        refine r_append B2.hL hl ?_
        walk_at "rd"
        have e2 : putAlt k m [] = [(k, m, true)] := by
          unfold putAlt
          simp only
          rw [if_pos e1]
        exact q _ ⟨_, _, _, by rw [e2]; exact B2.push upd_same⟩
      · obtain ⟨ys, a, rfl, ha, _⟩ := B.cut
        walk_at "rd"
        rename_i p hp
        have B1 := B.new (o := .lst []) hp
        have ha1 := Same.new (o := .lst []) hp _ _ ha
        refine r_neNil (SqL.of B1.hL) (SqL.of upd_same) B1.dat ?_
        refine r_bl ?_
        refine r_ifT (by simp) ?_
        walk_at "rd"
        refine r_ixL (SqL.of B1.hL) at_app ?_
        walk_at "rd"
        cases alt with
        | true =>
          walk_at "rd"
          refine r_popA B1.hL ?_
          obtain ⟨ys2, a2, e3, _, B2⟩ := B1.cut
          obtain ⟨rfl, rfl⟩ : ys2 = ys ∧ a2 = a := by simpa using List.append_inj' e3.symm rfl
          have ha2 : upd (upd H p (.lst [])) L (.lst ys2) a2 = some (.tup (partV (f, b2, true))) := STup.mutL B1.hL _ _ ha1
          walk_at "rd"
          rename_i t ht
          have B3 := B2.new (o := .tup (partV (f, b2 + m, true))) ht
          refine r_append B3.hL (by have := B2.len; have : (((f, b2, true) :: r).length : Nat) = r.length + 1 := rfl; omega) ?_
          walk_at "rd"
          have e2 : putAlt k m ((f, b2, true) :: r) = (f, b2 + m, true) :: r := by
            unfold putAlt
            simp only
            rw [if_pos e1]
          exact q _ ⟨_, _, _, by rw [e2]; exact B3.push upd_same⟩
        | false =>
          walk_at "rd"
          rename_i t ht
          have B2 := B1.new (o := .tup (partV (k, m, true))) ht
          refine r_append B2.hL (by rw [B.len]; exact hl) ?_
          walk_at "rd"
          have e2 : putAlt k m ((f, b2, false) :: r) = (k, m, true) :: (f, b2, false) :: r := by
            unfold putAlt
            simp only
            rw [if_pos e1]
          exact q _ ⟨_, _, _, by rw [e2]; exact B2.push upd_same⟩
    · have e : decide (0 < m) = false := decide_eq_false (by omega)
      walk_at "rd"
      have e2 : putAlt k m ps = ps := by
        unfold putAlt
        split <;> rw [if_neg (by omega)]
      exact q _ ⟨dx, L, xs, by rw [e2]; exact B⟩
theorem u_pa {H : Hp} {Q : VK} {E : XK} {b : Addr} {F : Hp} {k : Kd} {m : Int} {ps : List Part} (h : BlkAt K F H b ps) (hl : ps.length < sizeLine) (q : ∀ H', BlkAt K F H' b (putAlt k m ps) → Q .non H') : spPa K [.ref b, kv k, .int m] H Q E := ⟨b, F, k, m, ps, rfl, h, hl, q⟩
theorem u_lkE {H : Hp} {Q : VK} {E : XK} {b : Addr} {F : Hp} {ps : List Part} {v : V} (h : BlkAt K F H b ps) (ev : okv (lastKind ps) = v) (q : ∀ H' dx L xs, Blk K F H' b dx L xs ps → Q v H') : spLk K [.ref b] H Q E := ⟨b, F, ps, rfl, h, fun H' ⟨dx, L, xs, B⟩ => by rw [ev]; exact q _ _ _ _ B⟩
theorem Blk.at {F H : Hp} {b dx L : Addr} {xs : List V} {ps : List Part} (B : Blk K F H b dx L xs ps) : BlkAt K F H b ps := ⟨dx, L, xs, B⟩
def spPs (K : PySem.W.Frag) : Sp := fun vs H Q _ => ∃ (b : Addr) (F : Hp) (k : Kd) (m : Int) (ps : List Part), vs = [.ref b, kv k, .int m] ∧ BlkAt K F H b ps ∧ ps.length < sizeLine ∧ ∀ H', BlkAt K F H' b (putSame k m ps) → Q .non H'
theorem ok_Blocks_put_same (T : Txt K mg) : C8.Met P w K mg base 3 (He.ga K "Blocks") "put_same" (spPs K) [] := by
  refine metD (C_Blocks T) (M_Blocks_put_same T) (D_Blocks_put_same T) sc_Blocks_put_same (fun _ _ _ _ _ _ us hl => match us, hl with | [_, _, _], _ => rfl) (fun vs H Q E h => ?_) (fun cdv A outer s H vs Q E hr h => ?_)
  · obtain ⟨_, _, _, _, _, rfl, _⟩ := h
    rfl
  · have hu := hu_of hr
    refine ⟨_, (pss_one (ps_if (PW.pt (pw_and (pt_cmpR op_ne (C8.pe_mt0 (ok_Blocks_last_kind T) hr (by decide) (pv 0)) (pv 1) (nomark _)) (pw_and1 (pt_cmpR op_eq (pv 2) pe_int (nomark _)))))
      (pss_one (ps_expr (C8.pe_mt (ok_Blocks_put_alternating T) hr (by decide) (pv 0) (pa_cons (pv 1) (pa_cons pe_int pa_nil)))))
      (pss_one (ps_if (pt_cmpR op_ne (C8.pe_mt0 (ok_Blocks_last_kind T) hr (by decide) (pv 0)) (pv 1) (nomark _))
      (pss_one (ps_expr (pe_bm PySem.F.plainAttrs_list PySem.F.slot_list_append PySem.F.type_list_append mt_append (pe_fld (pv 0) rfl) (pa_cons (pe_tup (pa_cons (pv 1) (pa_cons (pv 2) (pa_cons pe_bl pa_nil)))) pa_nil))))
      (pss_cons (ps_asg (pe_bm0 PySem.F.plainAttrs_list PySem.F.slot_list_pop PySem.F.type_list_pop mt_pop (pe_fld (pv 0) rfl)) (pg_tup (n := 3) rfl (pgs_cons (pg_name (i := 3) sc_Blocks_put_same.nd rfl (Or.inl rfl)) (pgs_cons (pg_name (i := 4) sc_Blocks_put_same.nd rfl (Or.inl rfl)) (pgs_cons (pg_name (i := 5) sc_Blocks_put_same.nd rfl (Or.inl rfl)) pgs_nil)))))
      (pss_cons (ps_if (PW.pt (pw_and (pt_val (pv 5)) (pw_and1 (pt_cmpR op_gt (pv 4) pe_int (nomark _)))))
      (pss_one (ps_expr (pe_bm PySem.F.plainAttrs_list PySem.F.slot_list_append PySem.F.type_list_append mt_append (pe_fld (pv 0) rfl) (pa_cons (pe_tup (pa_cons (pv 3) (pa_cons (pe_op op_sub (pv 4) pe_int) (pa_cons pe_bl pa_nil)))) pa_nil))))
      pss_nil)
      (pss_one (ps_expr (pe_bm PySem.F.plainAttrs_list PySem.F.slot_list_append PySem.F.type_list_append mt_append (pe_fld (pv 0) rfl) (pa_cons (pe_tup (pa_cons (pv 1) (pa_cons (pe_op op_add (pv 2) (pe_ifExp (pt_val (pv 5)) pe_int (pv 4))) (pa_cons pe_bl pa_nil)))) pa_nil)))))))))), ?_⟩
    walk_at "cx"
    obtain ⟨b, F, k, m, ps, rfl, ⟨dx, L, xs, B⟩, hl, q⟩ := h
    have cB := C_Blocks T
    have nP := N_Blocks_kept_parts T
    by_cases hk : lastKind ps = some k
    · have e0 : (!decide (kv k = kv k)) = false := by simp
      have ev : okv (lastKind ps) = kv k := by rw [hk]; rfl
      walk_at "rd"
      refine u_lkE B.at ev fun H1 dx1 L1 xs1 B1 => ?_
      walk_at "rd"
      refine u_lkE B1.at ev fun H2 dx2 L2 xs2 B2 => ?_
      walk_at "rd"
      rcases ps with _ | ⟨⟨f, b2, alt⟩, r⟩
      · cases hk
      · obtain ⟨ys, a, rfl, ha, B3⟩ := B2.cut
        refine r_popA B2.hL ?_
        have ha3 : upd H2 L2 (.lst ys) a = some (.tup (partV (f, b2, alt))) := STup.mutL B2.hL _ _ ha
        have hlr : r.length + 1 < sizeLine := hl
        have hk2 : ¬ (lastKind ((f, b2, alt) :: r) ≠ some k) := fun z => z hk
        walk_at "rd"
        cases alt with
        | true =>
          walk_at "rd"
          rcases Int.lt_or_le 1 b2 with e1 | e1
          · have e : decide (1 < b2) = true := decide_eq_true e1
            refine r_ifT e ?_
            walk_at "rd"
            rename_i t ht
            have B4 := B3.new (o := .tup (partV (f, b2 - 1, true))) ht
            refine r_append B4.hL (by rw [B4.len]; omega) ?_
            have B5 := B4.push upd_same
            walk_at "rd"
            rename_i t2 ht2
            have B6 := B5.new (o := .tup (partV (k, m + 1, false))) ht2
            refine r_append B6.hL (by rw [B6.len]; exact hl) ?_
            walk_at "rd"
            have e2 : putSame k m ((f, b2, true) :: r) = (k, m + 1, false) :: (f, b2 - 1, true) :: r := by
              unfold putSame
              rw [if_neg hk2]
              simp only
              simp [e1]
            exact q _ ⟨_, _, _, by rw [e2]; exact B6.push upd_same⟩
          · have e : decide (1 < b2) = false := decide_eq_false (by omega)
            refine r_ifF e ?_
            walk_at "rd"
            rename_i t2 ht2
            have B6 := B3.new (o := .tup (partV (k, m + 1, false))) ht2
            refine r_append B6.hL (by rw [B6.len]; omega) ?_
            walk_at "rd"
            have e2 : putSame k m ((f, b2, true) :: r) = (k, m + 1, false) :: r := by
              unfold putSame
              rw [if_neg hk2]
              simp only
              simp [show ¬ 1 < b2 by omega]
            exact q _ ⟨_, _, _, by rw [e2]; exact B6.push upd_same⟩
        | false =>
          walk_at "rd"
          rename_i t2 ht2
          have B6 := B3.new (o := .tup (partV (k, m + b2, false))) ht2
          refine r_append B6.hL (by rw [B6.len]; omega) ?_
          walk_at "rd"
          have e2 : putSame k m ((f, b2, false) :: r) = (k, m + b2, false) :: r := by
            unfold putSame
            rw [if_neg hk2]
            simp
          exact q _ ⟨_, _, _, by rw [e2]; exact B6.push upd_same⟩
    · have hv : ∃ v, okv (lastKind ps) = v ∧ scal v (kv k) = true ∧ (!decide (v = kv k)) = true := by
        cases hlk : lastKind ps with
        | none => exact ⟨.non, rfl, rfl, rfl⟩
        | some k0 => exact ⟨kv k0, rfl, rfl, by rw [kv_eq, decide_eq_false fun e => hk (by rw [hlk, e])]; rfl⟩
      obtain ⟨v, ev, e1, e2⟩ := hv
      walk_at "rd"
      refine u_lkE B.at ev fun H1 dx1 L1 xs1 B1 => ?_
      walk_at "rd"
      refine r_ne e1 ?_
      walk_at "rd"
      by_cases hm : m = 1
      · subst hm
        refine r_ifT (by decide) ?_
        walk_at "rd"
        refine u_pa B1.at hl fun H2 hB => ?_
        walk_at "rd"
        refine q _ ?_
        have e3 : putSame k 1 ps = putAlt k 1 ps := by
          unfold putSame
          rw [if_pos hk, if_pos rfl]
        rw [e3]
        exact hB
      · refine r_ifF (decide_eq_false fun z => hm (V.int.inj z)) ?_
        walk_at "rd"
        refine u_lkE B1.at ev fun H2 dx2 L2 xs2 B2 => ?_
        walk_at "rd"
        refine r_ne e1 ?_
        walk_at "rd"
        rename_i t ht
        have B3 := B2.new (o := .tup (partV (k, m, false))) ht
        refine r_append B3.hL (by rw [B3.len]; exact hl) ?_
        walk_at "rd"
        have e3 : putSame k m ps = (k, m, false) :: ps := by
          unfold putSame
          rw [if_pos hk, if_neg hm]
        exact q _ ⟨_, _, _, by rw [e3]; exact B3.push upd_same⟩
theorem u_ps {H : Hp} {Q : VK} {E : XK} {b : Addr} {F : Hp} {k : Kd} {m : Int} {ps : List Part} (h : BlkAt K F H b ps) (hl : ps.length < sizeLine) (q : ∀ H', BlkAt K F H' b (putSame k m ps) → Q .non H') : spPs K [.ref b, kv k, .int m] H Q E := ⟨b, F, k, m, ps, rfl, h, hl, q⟩
theorem r_ixW {H : Hp} {Q : VK} {x : Wd} {i : Nat} {k : Kd} (e : x.ks[i]? = some k) (q : Q (kv k) H) : rIxS (.str x.str) (.int i) H Q := by
  have hi : i < x.str.cps.size := by rw [wd_size]; exact (List.getElem?_eq_some_iff.mp e).1
  have h : x.str.cps[i]? = some x.str.cps[i] := Array.getElem?_eq_getElem hi
  obtain ⟨k', e1, e2⟩ := wd_at h
  rw [e] at e1
  cases e1
  refine r_ixS ?_ (at_lit (n := i) (x := x.str.cps[i]) (by rw [Array.getElem?_toList]; exact h)) (by rw [e2]; exact q)
  show x.str.cps.size ≤ sizeLine
  rw [wd_size]
  exact wd_len x
def spPi (K : PySem.W.Frag) : Sp := fun vs H Q _ => ∃ (b : Addr) (F : Hp) (x : Wd) (t : Int) (ps : List Part), vs = [.ref b, .str x.str, .int t] ∧ BlkAt K F H b ps ∧ ps.length + 1 < sizeLine ∧ ∀ H', BlkAt K F H' b (putIn x t ps) → Q .non H'
theorem ok_Blocks_put_in (T : Txt K mg) : C8.Met P w K mg base 4 (He.ga K "Blocks") "put_in" (spPi K) [] := by
  refine metD (C_Blocks T) (M_Blocks_put_in T) (D_Blocks_put_in T) sc_Blocks_put_in (fun _ _ _ _ _ _ us hl => match us, hl with | [_, _, _], _ => rfl) (fun vs H Q E h => ?_) (fun cdv A outer s H vs Q E hr h => ?_)
  · obtain ⟨_, _, _, _, _, rfl, _⟩ := h
    rfl
  · have hu := hu_of hr
    refine ⟨_, (pss_one (ps_if (pt_cmpR op_eq (pe_callB cq_lenZ (by rfl) (T_len T) PySem.boot_len (pa_cons (pv 1) pa_nil)) pe_int (nomark _))
      (pss_one (ps_expr (C8.pe_mt (ok_Blocks_put_same T) hr (by decide) (pv 0) (pa_cons (pv 1) (pa_cons (pv 2) pa_nil)))))
      (pss_cons (ps_expr (C8.pe_mt (ok_Blocks_put_same T) hr (by decide) (pv 0) (pa_cons (pe_ix ix_str (pv 1) pe_int (fun _ _ => rfl)) (pa_cons pe_int pa_nil))))
      (pss_one (ps_expr (C8.pe_mt (ok_Blocks_put_alternating T) hr (by decide) (pv 0) (pa_cons (pe_ix ix_str (pv 1) pe_int (fun _ _ => rfl)) (pa_cons (pe_op op_sub (pe_op op_mul pe_int (pv 2)) pe_int) pa_nil)))))))), ?_⟩
    walk_at "cx"
    obtain ⟨b, F, x, t, ps, rfl, ⟨dx, L, xs, B⟩, hl, q⟩ := h
    cases x with
    | one k =>
      have e1 : (Wd.one k).str = k.str := by cases k <;> rfl
      have e2 : k.str.length ≤ sizeLine := by cases k <;> decide +kernel
      have e3 : decide (V.int (k.str.length : Nat) = V.int 1) = true := by cases k <;> decide +kernel
      rw [e1]
      walk_at "rd"
      refine u_ps B.at (by omega) fun H1 hB => ?_
      walk_at "rd"
      exact q _ hB
    | two k =>
      have e2 : (Wd.two k).str.length ≤ sizeLine := by cases k <;> decide +kernel
      have e3 : decide (V.int ((Wd.two k).str.length : Nat) = V.int 1) = false := by cases k <;> decide +kernel
      walk_at "rd"
      refine r_ixW (i := 0) rfl ?_
      walk_at "rd"
      refine u_ps B.at (by omega) fun H1 ⟨dx1, L1, xs1, B1⟩ => ?_
      walk_at "rd"
      refine r_ixW (i := 1) rfl ?_
      walk_at "rd"
      refine r_I (.inl ⟨by decide, by decide⟩) ?_
      walk_at "rd"
      refine u_pa B1.at (by have := putSame_len k 1 ps; omega) fun H2 hB => ?_
      walk_at "rd"
      exact q _ hB
theorem u_pi {H : Hp} {Q : VK} {E : XK} {b : Addr} {F : Hp} {x : Wd} {t : Int} {ps : List Part} (h : BlkAt K F H b ps) (hl : ps.length + 1 < sizeLine) (q : ∀ H', BlkAt K F H' b (putIn x t ps) → Q .non H') : spPi K [.ref b, .str x.str, .int t] H Q E := ⟨b, F, x, t, ps, rfl, h, hl, q⟩
end
end
local macro_rules | `(tactic| walk_at "h0") => `(tactic| first
  | exact SqL.of (Lst.hL (by assumption))
  | exact Lst.hL (by assumption))

section
section
variable {P : Program} {w : World} {K : PySem.W.Frag} {mg : Str → Option Value} {base : Heap}
theorem ki1 {k : Kd} {m : Int} : kiV (Wd.one k, m) = [kv k, .int m] := by cases k <;> rfl
theorem ki2 {k : Kd} {m : Int} : kiV (Wd.two k, m) = [.str (k.str ++ k.ot.str), .int m] := by cases k <;> rfl
def spTd (K : PySem.W.Frag) : Sp := fun vs H Q _ => ∃ (b : Addr) (F : Hp) (ps : List Part), vs = [.ref b] ∧ BlkAt K F H b ps ∧ PI ps ∧ 4 * ps.length < sizeLine ∧ ∀ p xs H', Lst H H' p xs kiV (tidyParts ps) → Q (.ref p) H'
theorem ok_Blocks_tidy (T : Txt K mg) : C8.Met P w K mg base 2 (He.ga K "Blocks") "tidy" (spTd K) [] := by
  refine metD (C_Blocks T) (M_Blocks_tidy T) (D_Blocks_tidy T) sc_Blocks_tidy (fun _ _ _ _ _ _ us hl => match us, hl with | [_], _ => rfl) (fun vs H Q E h => ?_) (fun cdv A outer s H vs Q E hr h => ?_)
  · obtain ⟨_, _, _, rfl, _⟩ := h
    rfl
  · have hu := hu_of hr
    refine ⟨_, (pss_cons (ps_par rfl sc_Blocks_tidy.nd (i := 1) (j := 2) rfl rfl (by decide) rfl rfl (pa_cons (pe_lst pa_nil) (pa_cons (pe_revL (pe_fld (pv 0) rfl)) pa_nil)) rfl)
      (pss_cons (ps_while PassesOwn.never (pt_cmpR (op_neD hr.units) (pv 2) (pe_lst pa_nil) (nomark _))
      (pss_cons (ps_asg (pe_bm0 PySem.F.plainAttrs_list PySem.F.slot_list_pop PySem.F.type_list_pop mt_pop (pv 2)) (pg_tup (n := 3) rfl (pgs_cons (pg_name (i := 3) sc_Blocks_tidy.nd rfl (Or.inl rfl)) (pgs_cons (pg_name (i := 4) sc_Blocks_tidy.nd rfl (Or.inl rfl)) (pgs_cons (pg_name (i := 5) sc_Blocks_tidy.nd rfl (Or.inl rfl)) pgs_nil)))))
      (pss_cons (ps_if (PW.pt (pw_and (pt_not (pt_val (pv 5))) (pw_and1 (pt_cmpR op_gt (pv 4) pe_int (nomark _)))))
      (pss_cons (ps_expr (pe_bm PySem.F.plainAttrs_list PySem.F.slot_list_append PySem.F.type_list_append mt_append (pv 1) (pa_cons (pe_tup (pa_cons (pv 3) (pa_cons (pv 4) pa_nil))) pa_nil)))
      (pss_one ps_continue))
      pss_nil)
      (pss_cons (ps_set (i := 6) sc_Blocks_tidy.nd rfl (Or.inl rfl) (pe_op op_add (pv 4) (pe_ifExp (pt_cmpR (op_neD hr.units) (pv 2) (pe_lst pa_nil) (nomark _)) pe_int pe_int)))
      (pss_cons (ps_if (pt_cmpR op_lt (pv 6) (C8.pe_gc rfl (T_ALTERNATING T)) (nomark _))
      (pss_cons (ps_expr (pe_bm PySem.F.plainAttrs_list PySem.F.slot_list_append PySem.F.type_list_append mt_append (pv 1) (pa_cons (pe_tup (pa_cons (pv 3) (pa_cons pe_int pa_nil))) pa_nil)))
      (pss_one (ps_set (i := 7) sc_Blocks_tidy.nd rfl (Or.inl rfl) pe_int)))
      (pss_cons (ps_expr (pe_bm PySem.F.plainAttrs_list PySem.F.slot_list_append PySem.F.type_list_append mt_append (pv 1) (pa_cons (pe_tup (pa_cons (pe_op oq_addZ (pv 3) (C8.pe_c (ok_other_of T) hr (by decide) rfl (pa_cons (pv 3) pa_nil))) (pa_cons (pe_op op_fdiv (pv 6) pe_int) pa_nil))) pa_nil)))
      (pss_one (ps_set (i := 7) sc_Blocks_tidy.nd rfl (Or.inl rfl) (pe_op op_mul (pe_op op_fdiv (pv 6) pe_int) pe_int)))))
      (pss_one (ps_if (pt_cmpR op_lt (pv 7) (pv 4) (nomark _))
      (pss_one (ps_expr (pe_bm PySem.F.plainAttrs_list PySem.F.slot_list_append PySem.F.type_list_append mt_append (pv 2) (pa_cons (pe_tup (pa_cons (pe_ifExp (pt_cmpR op_eq (pe_op op_mod (pv 7) pe_int) pe_int (nomark _)) (pv 3) (C8.pe_c (ok_other_of T) hr (by decide) rfl (pa_cons (pv 3) pa_nil))) (pa_cons (pe_op op_sub (pv 4) (pv 7)) (pa_cons pe_bl pa_nil)))) pa_nil))))
      (pss_one (ps_if (pt_cmpR op_gt (pv 7) (pv 4) (nomark _))
      (pss_cons (ps_asg (pe_bm0 PySem.F.plainAttrs_list PySem.F.slot_list_pop PySem.F.type_list_pop mt_pop (pv 2)) (pg_tup (n := 3) rfl (pgs_cons (pg_name (i := 8) sc_Blocks_tidy.nd rfl (Or.inl rfl)) (pgs_cons (pg_name (i := 9) sc_Blocks_tidy.nd rfl (Or.inl rfl)) (pgs_cons (pg_name (i := 10) sc_Blocks_tidy.nd rfl (Or.inl rfl)) pgs_nil)))))
      (pss_cons (ps_set (i := 11) sc_Blocks_tidy.nd rfl (Or.inl rfl) (pe_ifExp (PW.pt (pw_and (pt_cmpR op_eq (pv 9) pe_int (nomark _)) (pw_and (pt_cmpR (op_neD hr.units) (pv 2) (pe_lst pa_nil) (nomark _)) (pw_and1 (pt_val (pe_ix ix_tup (pe_ix ix_list (pv 2) (pe_un un_neg pe_int) (fun _ _ => rfl)) pe_int (fun _ _ => rfl))))))) (pe_ix ix_tup (pe_bm0 PySem.F.plainAttrs_list PySem.F.slot_list_pop PySem.F.type_list_pop mt_pop (pv 2)) pe_int (fun _ _ => rfl)) pe_int))
      (pss_one (ps_expr (pe_bm PySem.F.plainAttrs_list PySem.F.slot_list_append PySem.F.type_list_append mt_append (pv 2) (pa_cons (pe_tup (pa_cons (pv 8) (pa_cons (pe_op op_add (pe_op op_sub (pv 9) pe_int) (pv 11)) (pa_cons (pe_cmpR op_eq (pv 9) pe_int (nomark _)) pa_nil)))) pa_nil))))))
      pss_nil)))))))))
      (pss_one (ps_ret (pv 1))))), ?_⟩
    walk_at "cx"
    obtain ⟨b, F, ps, rfl, ⟨dx, L, xs, B⟩, hi, hl, q⟩ := h
    have cB := C_Blocks T
    have nP := N_Blocks_kept_parts T
    walk_at "rd"
    rename_i f hf
    have B1 := B.new (o := .lst []) hf
    refine r_exL (SqL.of B1.hL) ?_
    walk_at "rd"
    rename_i l hl1
    have hfl : f ≠ l := ne_of_n upd_same hl1
    have F0 : Lst H (upd (upd H f (.lst [])) l (.lst xs.reverse)) f [] kiV [] := (Lst.fresh (Same.refl H) hf).new hl1
    have L0 : Lst H (upd (upd H f (.lst [])) l (.lst xs.reverse)) l xs.reverse partV ps.reverse.reverse := ⟨(Same.new hf).trans (Same.new hl1), Same.free' (Same.new hf) hl1, upd_same, B1.hR.rev.ex (Same.new hl1)⟩
    refine ⟨fun n σ Ha => ∃ (fxs lxs : List V) (left : List Part) (out : List (Wd × Int)) (v3 v4 v5 v6 v7 v8 v9 v10 v11 : Option V), n = msum left ∧ σ = [some (.ref b), some (.ref f), some (.ref l), v3, v4, v5, v6, v7, v8, v9, v10, v11] ∧ Lst H Ha f fxs kiV out ∧ Lst H Ha l lxs partV left.reverse ∧ PI left ∧ out ++ tidyGo (msum left) left = tidyParts ps ∧ out.length + wt left ≤ 4 * ps.length,
      ⟨_, [], xs.reverse, ps.reverse, [], none, none, none, none, none, none, none, none, none, rfl, rfl, F0, L0, hi.rev, ?_, ?_⟩, ?_⟩
    · rw [List.nil_append]
      exact tidyGo_fuel hi.rev (by rw [hi.rev.msum]; omega) (by rw [psum_rev, hi.msum]; omega)
    · rw [List.length_nil, wt_rev]
      have := wt_le ps
      omega
    rintro m σ Ha ⟨fxs, lxs, left, out, v3, v4, v5, v6, v7, v8, v9, v10, v11, rfl, rfl, Lf, Ll, hP, hR, hW⟩
    walk_at "rd"
    rename_i p hp
    have Ll1 := Ll.new (o := .lst []) hp
    have Lf1 := Lf.new (o := .lst []) hp
    refine r_neNil (SqL.of Ll1.hL) (SqL.of upd_same) (Dat.ofRows part_dat Ll1.hR) ?_
    walk_at "rd"
    rcases left with _ | ⟨⟨k, m, alt⟩, r⟩
    · have e0 : lxs = [] := List.length_eq_zero_iff.mp Ll.len
      subst e0
      walk_at "rd"
      rw [show out ++ tidyGo (msum []) [] = out from List.append_nil _] at hR
      rw [hR] at Lf1
      exact q _ _ _ Lf1
    · have e0 : ((k, m, alt) :: r).reverse = r.reverse ++ [(k, m, alt)] := List.reverse_cons
      rw [e0] at Ll1
      obtain ⟨ys, a, rfl, ha, hY⟩ := Ll1.cut
      refine r_ifT (by simp) ?_
      refine ⟨_, fun _ _ z => z, ?_⟩
      walk_at "rd"
      refine r_popA Ll1.hL ?_
      have L2 := Ll1.set hY
      have F2 := Lf1.other (ys := ys) Ll1.hL Ll1.L0 hfl
      have ha2 : upd (upd Ha p (.lst [])) l (.lst ys) a = some (.tup (partV (k, m, alt))) := STup.mutL Ll1.hL _ _ ha
      obtain ⟨t1, t2⟩ := tidyGo_step hP
      obtain ⟨t3, t4, _, _⟩ := tidyStep_ok hP
      have t5 := tidyStep_wt hP
      have hfin : ∀ (G : Hp) (v3 v4 v5 v6 v7 v8 v9 v10 v11 : Option V) (fxs' lxs' : List V), Lst H G f fxs' kiV (out ++ (tidyStep k m alt r).1) → Lst H G l lxs' partV (tidyStep k m alt r).2.reverse →
          ∃ m', m' < msum ((k, m, alt) :: r) ∧ ∃ (fxs lxs : List V) (left : List Part) (out : List (Wd × Int)) (w3 w4 w5 w6 w7 w8 w9 w10 w11 : Option V), m' = msum left ∧ [some (.ref b), some (.ref f), some (.ref l), v3, v4, v5, v6, v7, v8, v9, v10, v11] = [some (.ref b), some (.ref f), some (.ref l), w3, w4, w5, w6, w7, w8, w9, w10, w11] ∧ Lst H G f fxs kiV out ∧ Lst H G l lxs partV left.reverse ∧ PI left ∧ out ++ tidyGo (msum left) left = tidyParts ps ∧ out.length + wt left ≤ 4 * ps.length := by
        intro G v3 v4 v5 v6 v7 v8 v9 v10 v11 fxs' lxs' z1 z2
        refine ⟨_, t2, fxs', lxs', _, _, _, _, _, _, _, _, _, _, _, rfl, rfl, z1, z2, t3, ?_, ?_⟩
        · rw [List.append_assoc, ← t1]
          exact hR
        · rw [List.length_append]
          omega
      have hsz : fxs.length < sizeLine := by
        rw [Lf.len]
        omega
      have hyl : ys.length = r.length := by rw [hY.len, List.length_reverse]
      have hsz2 : ys.length < sizeLine := by
        have := wt_len hP
        rw [hyl]
        rw [List.length_cons] at this
        omega
      clear t1 t2 t3 t4 t5 hR hW
      walk_at "rd"
      cases alt with
      | false =>
        have hm0 : 1 < m := by have := hP.2.1 rfl; omega
        have hm : decide (1 < m) = true := decide_eq_true hm0
        walk_at "rd"
        rename_i t ht
        have F3 := F2.new (o := .tup [kv k, .int m]) ht
        refine r_append F3.hL hsz ?_
        walk_at "rd"
        have L4 := (L2.new (o := .tup [kv k, .int m]) ht).other (ys := fxs ++ [.ref t]) F3.hL F3.L0 (Ne.symm hfl)
        have F4 := F3.push (d := (Wd.one k, m)) (t := t) (by rw [upd_same, ki1])
        rw [ts0 hm0] at hfin
        exact hfin _ _ _ _ _ _ _ _ _ _ _ _ F4 L4
      | true =>
        walk_at "rd"
        rename_i p2 hp2
        have L3 := L2.new (o := .lst []) hp2
        have F3 := F2.new (o := .lst []) hp2
        refine r_neNil (SqL.of L3.hL) (SqL.of upd_same) (Dat.ofRows part_dat L3.hR) ?_
        walk_at "rd"
        refine r_iteI ?_
        walk_at "rd"
        have hah : m + (if (!ys.isEmpty) = true then (1 : Int) else 0) = m + (if r ≠ [] then (1 : Int) else 0) := by
          cases r with
          | nil =>
            obtain rfl : ys = [] := List.length_eq_zero_iff.mp hyl
            rfl
          | cons x r =>
            have : ys ≠ [] := fun e => by rw [e] at hyl; cases hyl
            simp [this]
        rw [hah]
        generalize hahe : m + (if r ≠ [] then (1 : Int) else 0) = ah
        have hm1 : 1 ≤ m := hP.1
        have hahb : m ≤ ah ∧ ah ≤ m + 1 := by
          rw [← hahe]
          split <;> omega
        rcases Int.lt_or_le ah 4 with h4 | h4
        · refine r_ifT (decide_eq_true h4) ?_
          walk_at "rd"
          rename_i t ht
          have F4 := F3.new (o := .tup [kv k, .int 1]) ht
          refine r_append F4.hL hsz ?_
          have L5 := (L3.new (o := .tup [kv k, .int 1]) ht).other (ys := fxs ++ [.ref t]) F4.hL F4.L0 (Ne.symm hfl)
          have F5 := F4.push (d := (Wd.one k, 1)) (t := t) (by rw [upd_same, ki1])
          walk_at "rd"
          rcases Int.lt_or_le 1 m with h5 | h5
          · refine r_ifT (decide_eq_true h5) ?_
            walk_at "rd"
            refine r_I (by decide) ?_
            walk_at "rd"
            rename_i t2 ht2
            have L6 := L5.new (o := .tup (partV (k.ot, m - 1, true))) ht2
            have F6 := F5.new (o := .tup (partV (k.ot, m - 1, true))) ht2
            refine r_append L6.hL hsz2 ?_
            have F7 := F6.other (ys := ys ++ [.ref t2]) L6.hL L6.L0 hfl
            have L7 := L6.push (d := (k.ot, m - 1, true)) (t := t2) upd_same
            rw [tsA1 hahe h4 h5] at hfin
            rw [← List.reverse_cons] at L7
            walk_at "rd"
            exact hfin _ _ _ _ _ _ _ _ _ _ _ _ F7 L7
          · refine r_ifF (decide_eq_false (show ¬ (1 : Int) < m by omega)) ?_
            walk_at "rd"
            refine r_ifF (decide_eq_false (show ¬ m < 1 by omega)) ?_
            walk_at "rd"
            rw [tsA2 hahe h4 (by omega)] at hfin
            exact hfin _ _ _ _ _ _ _ _ _ _ _ _ F5 L5
        · refine r_ifF (decide_eq_false (by omega)) ?_
          walk_at "rd"
          have e0 : k.str.length + k.ot.str.length ≤ sizeLine := by cases k <;> decide +kernel
          refine r_addZ e0 ?_
          walk_at "rd"
          refine r_I ⟨by decide, by decide⟩ ?_
          walk_at "rd"
          rename_i t ht
          have F4 := F3.new (o := .tup [.str (k.str ++ k.ot.str), .int (ah / 2)]) ht
          refine r_append F4.hL hsz ?_
          have L5 := (L3.new (o := .tup [.str (k.str ++ k.ot.str), .int (ah / 2)]) ht).other (ys := fxs ++ [.ref t]) F4.hL F4.L0 (Ne.symm hfl)
          have F5 := F4.push (d := (Wd.two k, ah / 2)) (t := t) (by rw [upd_same, ki2])
          walk_at "rd"
          refine r_I ⟨by decide, by decide⟩ ?_
          walk_at "rd"
          refine r_I (.inr ⟨by decide, by decide⟩) ?_
          walk_at "rd"
          rcases Int.lt_or_le (ah / 2 * 2) m with h5 | h5
          · refine r_ifT (decide_eq_true h5) ?_
            walk_at "rd"
            refine r_I (show (0 : Int) < 2 by decide) ?_
            walk_at "rd"
            refine r_ifT (decide_eq_true (show V.int (ah / 2 * 2 % 2) = V.int 0 by congr 1; omega)) ?_
            walk_at "rd"
            rename_i t2 ht2
            have L6 := L5.new (o := .tup (partV (k, m - ah / 2 * 2, true))) ht2
            have F6 := F5.new (o := .tup (partV (k, m - ah / 2 * 2, true))) ht2
            refine r_append L6.hL hsz2 ?_
            have F7 := F6.other (ys := ys ++ [.ref t2]) L6.hL L6.L0 hfl
            have L7 := L6.push (d := (k, m - ah / 2 * 2, true)) (t := t2) upd_same
            rw [tsB1 hahe (by omega) h5] at hfin
            rw [← List.reverse_cons] at L7
            walk_at "rd"
            exact hfin _ _ _ _ _ _ _ _ _ _ _ _ F7 L7
          · refine r_ifF (decide_eq_false (show ¬ ah / 2 * 2 < m by omega)) ?_
            walk_at "rd"
            rcases Int.lt_or_le m (ah / 2 * 2) with h6 | h6
            · refine r_ifT (decide_eq_true h6) ?_
              walk_at "rd"
              rcases r with _ | ⟨⟨a, z, al⟩, r'⟩
              · simp only [ne_eq, not_true_eq_false, if_false] at hahe
                omega
              have e1 : al = false := hP.2.2.1 rfl _ _ rfl
              subst e1
              rw [List.reverse_cons] at L5
              obtain ⟨ys', a', rfl, ha', hY'⟩ := L5.cut
              refine r_popA L5.hL ?_
              have L6 := L5.set hY'
              have F6 := F5.other (ys := ys') L5.hL L5.L0 hfl
              have ha6 := STup.mutL (o := .lst ys') L5.hL _ _ ha'
              have hyl' : ys'.length = r'.length := by rw [hY'.len, List.length_reverse]
              walk_at "rd"
              have ez : decide (V.int z = V.int 2) = decide (z = 2) := by
                by_cases q : z = 2
                · rw [decide_eq_true q, decide_eq_true (congrArg V.int q)]
                · rw [decide_eq_false q, decide_eq_false fun e => q (V.int.inj e)]
              have hsz3 : ys'.length < sizeLine := by
                rw [hyl']
                rw [List.length_append] at hsz2
                simp only [List.length_append, List.length_cons, List.length_nil] at hyl
                omega
              by_cases hz : z = 2
              · refine r_ifT (decide_eq_true (congrArg V.int hz)) ?_
                walk_at "rd"
                rename_i p3 hp3
                have L7 := L6.new (o := .lst []) hp3
                have F7 := F6.new (o := .lst []) hp3
                have ha7 := Same.new (o := .lst []) hp3 _ _ ha6
                refine r_neNil (SqL.of L7.hL) (SqL.of upd_same) (Dat.ofRows part_dat L7.hR) ?_
                walk_at "rd"
                rcases r' with _ | ⟨⟨b2, m2, al2⟩, r2⟩
                · obtain rfl : ys' = [] := List.length_eq_zero_iff.mp hyl'
                  walk_at "rd"
                  rename_i t2 ht2
                  have L8 := L7.new (o := .tup [kv a, .int (z - 1 + 0), .bl (decide (V.int z = V.int 2))]) ht2
                  have F8 := F7.new (o := .tup [kv a, .int (z - 1 + 0), .bl (decide (V.int z = V.int 2))]) ht2
                  refine r_append L8.hL hsz3 ?_
                  have F9 := F8.other (ys := ([] : List V) ++ [.ref t2]) L8.hL L8.L0 hfl
                  have L9 := L8.push (d := (a, z - 1 + 0, decide (z = 2))) (t := t2) (by rw [upd_same, ez])
                  rw [tsB2a (by omega) h6 (fun _ _ _ e => by cases e) hahe] at hfin
                  rw [← List.reverse_cons] at L9
                  walk_at "rd"
                  exact hfin _ _ _ _ _ _ _ _ _ _ _ _ F9 L9
                · rw [List.reverse_cons] at L7
                  obtain ⟨ys2, a2, rfl, ha2, hY2⟩ := L7.cut
                  refine r_ifT (by simp) ?_
                  walk_at "rd"
                  refine r_ixL (SqL.of L7.hL) at_app ?_
                  walk_at "rd"
                  cases al2 with
                  | true =>
                    walk_at "rd"
                    refine r_popA L7.hL ?_
                    have L8 := L7.set hY2
                    have F8 := F7.other (ys := ys2) L7.hL L7.L0 hfl
                    have ha8 := STup.mutL (o := .lst ys2) L7.hL _ _ ha2
                    walk_at "rd"
                    rename_i t2 ht2
                    have L9 := L8.new (o := .tup [kv a, .int (z - 1 + m2), .bl (decide (V.int z = V.int 2))]) ht2
                    have F9 := F8.new (o := .tup [kv a, .int (z - 1 + m2), .bl (decide (V.int z = V.int 2))]) ht2
                    refine r_append L9.hL (by rw [List.length_append] at hsz3; omega) ?_
                    have F10 := F9.other (ys := ys2 ++ [.ref t2]) L9.hL L9.L0 hfl
                    have L10 := L9.push (d := (a, z - 1 + m2, true)) (t := t2) (by rw [upd_same, ez, decide_eq_true hz])
                    rw [tsB2b (by omega) h6 hz hahe] at hfin
                    rw [← List.reverse_cons] at L10
                    walk_at "rd"
                    exact hfin _ _ _ _ _ _ _ _ _ _ _ _ F10 L10
                  | false =>
                    walk_at "rd"
                    rw [← List.reverse_cons] at L7
                    rename_i t2 ht2
                    have L8 := L7.new (o := .tup [kv a, .int (z - 1 + 0), .bl (decide (V.int z = V.int 2))]) ht2
                    have F8 := F7.new (o := .tup [kv a, .int (z - 1 + 0), .bl (decide (V.int z = V.int 2))]) ht2
                    refine r_append L8.hL hsz3 ?_
                    have F9 := F8.other (ys := (ys2 ++ [.ref a2]) ++ [.ref t2]) L8.hL L8.L0 hfl
                    have L9 := L8.push (d := (a, z - 1 + 0, decide (z = 2))) (t := t2) (by rw [upd_same, ez])
                    rw [tsB2a (by omega) h6 (fun _ _ _ e => by cases e) hahe] at hfin
                    rw [← List.reverse_cons] at L9
                    walk_at "rd"
                    exact hfin _ _ _ _ _ _ _ _ _ _ _ _ F9 L9
              · refine r_ifF (decide_eq_false (show ¬ V.int z = V.int 2 from fun e => hz (V.int.inj e))) ?_
                walk_at "rd"
                rename_i t2 ht2
                have L8 := L6.new (o := .tup [kv a, .int (z - 1 + 0), .bl (decide (V.int z = V.int 2))]) ht2
                have F8 := F6.new (o := .tup [kv a, .int (z - 1 + 0), .bl (decide (V.int z = V.int 2))]) ht2
                refine r_append L8.hL hsz3 ?_
                have F9 := F8.other (ys := ys' ++ [.ref t2]) L8.hL L8.L0 hfl
                have L9 := L8.push (d := (a, z - 1 + 0, decide (z = 2))) (t := t2) (by rw [upd_same, ez])
                rw [tsB2a (by omega) h6 (fun _ _ _ _ => hz) hahe] at hfin
                rw [← List.reverse_cons] at L9
                walk_at "rd"
                exact hfin _ _ _ _ _ _ _ _ _ _ _ _ F9 L9
            · refine r_ifF (decide_eq_false (show ¬ m < ah / 2 * 2 by omega)) ?_
              walk_at "rd"
              rw [tsB3 hahe (by omega) (by omega)] at hfin
              exact hfin _ _ _ _ _ _ _ _ _ _ _ _ F5 L5
end
end
section
section
variable {P : Program} {w : World} {K : PySem.W.Frag} {mg : Str → Option Value} {base : Heap}
theorem u_td {H : Hp} {Q : VK} {E : XK} {b : Addr} {F : Hp} {ps : List Part} (h : BlkAt K F H b ps) (h1 : PI ps) (hl : 4 * ps.length < sizeLine) (q : ∀ p xs H', Lst H H' p xs kiV (tidyParts ps) → Q (.ref p) H') : spTd K [.ref b] H Q E := ⟨b, F, ps, rfl, h, h1, hl, q⟩
theorem Lst.weak {α : Type} {F F' H : Hp} {L : Addr} {xs : List V} {f : α → List V} {ds : List α} (s : Same F' F) (B : Lst F H L xs f ds) : Lst F' H L xs f ds := ⟨Same.trans s B.s, Same.free' s B.L0, B.hL, B.hR⟩
def spTk (K : PySem.W.Frag) : Sp := fun vs H Q _ => ∃ (a : Addr) (xs : List V) (ks : List (Wd × Int)), vs = [.ref a] ∧ SqL K H a xs ∧ Rows H kiV xs ks ∧ (∀ x ∈ ks, 1 ≤ x.2) ∧ ks.length ≤ 1000000 ∧ ∀ p xs H', Lst H H' p xs kiV (tidyKinds ks) → Q (.ref p) H'
theorem ok_tidy_kinds (T : Txt K mg) : C8.Cal P w K mg base 5 "tidy_kinds" (spTk K) [] := by
  refine calD (D_tidy_kinds T) (T_tidy_kinds T) sc_tidy_kinds (fun _ _ _ _ _ _ us hl => match us, hl with | [_], _ => rfl) (fun vs H Q E h => ?_) (fun cdv A outer s H vs Q E hr h => ?_)
  · obtain ⟨_, _, _, rfl, _⟩ := h
    rfl
  · have hu := hu_of hr
    refine ⟨_, (pss_cons (ps_set (i := 1) sc_tidy_kinds.nd rfl (Or.inl rfl) (pe_mk0 (ok_Blocks_init T) hr (by decide) rfl))
      (pss_cons (ps_for PassesOwn.never rfl (pi_list (pv 0)) (pg_tup (n := 2) rfl (pgs_cons (pg_name (i := 2) sc_tidy_kinds.nd rfl (Or.inl rfl)) (pgs_cons (pg_name (i := 3) sc_tidy_kinds.nd rfl (Or.inl rfl)) pgs_nil)))
      (pss_one (ps_expr (C8.pe_mt (ok_Blocks_put_in T) hr (by decide) (pv 1) (pa_cons (pv 2) (pa_cons (pv 3) pa_nil))))))
      (pss_one (ps_ret (C8.pe_mt0 (ok_Blocks_tidy T) hr (by decide) (pv 1)))))), ?_⟩
    walk_at "cx"
    obtain ⟨a, xs, ks, rfl, h1, hR, hp, hl, q⟩ := h
    walk_at "rd"
    intro b dx hb hdx hne
    have s1 : Same H (upd (upd H dx (.own b)) b (.ins (He.ga K "Blocks") dx [])) := (Same.new hdx).trans (Same.new (by rw [upd_ne hne.symm]; exact hb))
    refine ⟨b, dx, H, rfl, s1, hb, upd_same, fun H1 ⟨dx1, L1, xs1, B1⟩ => ⟨rfl, ?_⟩⟩
    have s2 := B1.s
    walk_at "rd"
    refine for_it walk_list (fun i σ Ha => ∃ v2 v3, σ = [some (.ref a), some (.ref b), v2, v3] ∧ BlkAt K H Ha b (putAll (ks.take i) [])) ⟨_, _, rfl, B1.at⟩ (fun i σ Ha _ z => by obtain ⟨_, _, _, _, _, _, B⟩ := z; exact B.s.seq h1) ?_ ?_
    · rintro i y σ Ha Hb hi ⟨v2, v3, rfl, dx2, L2, xs2, B⟩ ⟨rfl, hy⟩
      obtain ⟨ea, x, rfl, he, hea⟩ := hR.get hy
      have hea2 := B.s _ _ hea
      obtain ⟨x, t⟩ := x
      walk_at "rd"
      have hlen : (putAll (ks.take i) []).length + 1 < sizeLine := by
        have e1 := putAll_len (ks.take i) []
        have e2 : (ks.take i).length ≤ ks.length := by rw [List.length_take]; omega
        have e3 : sizeLine = 16777216 := rfl
        simp only [List.length_nil] at e1
        omega
      refine ⟨b, H, x, t, _, rfl, B.at, hlen, fun H2 hB => ?_⟩
      walk_at "rd"
      refine ⟨_, _, rfl, ?_⟩
      have e4 : putAll (ks.take (i + 1)) [] = putIn x t (putAll (ks.take i) []) := by
        unfold putAll
        rw [List.take_succ, he, List.foldl_append]
        rfl
      rw [e4]
      exact hB
    · rintro σ Ha ⟨v2, v3, rfl, dx2, L2, xs2, B⟩
      rw [hR.len, List.take_length] at B
      walk_at "rd"
      have e1 := putAll_len ks []
      have e3 : sizeLine = 16777216 := rfl
      simp only [List.length_nil] at e1
      refine u_td B.at (putAll_ok (ps := []) trivial hp).1 (by omega) fun p xs3 H3 hL => ?_
      walk_at "rd"
      exact q _ _ _ (hL.weak B.s)
theorem u_tk {H : Hp} {Q : VK} {E : XK} {a : Addr} {xs : List V} {ks : List (Wd × Int)} (h1 : SqL K H a xs) (h2 : Rows H kiV xs ks) (h3 : ∀ x ∈ ks, 1 ≤ x.2) (hl : ks.length ≤ 1000000) (q : ∀ p xs H', Lst H H' p xs kiV (tidyKinds ks) → Q (.ref p) H') : spTk K [.ref a] H Q E := ⟨a, xs, ks, rfl, h1, h2, h3, hl, q⟩
end
end
section
section
variable {P : Program} {w : World} {K : PySem.W.Frag} {mg : Str → Option Value} {base : Heap}
/-- the heap without some lists -/
def del (H : Hp) (M : List Addr) : Hp := fun x => if x ∈ M then none else H x
theorem del_same {H : Hp} {M : List Addr} : Same (del H M) H := fun a o h => by
  unfold del at h
  split at h
  · cases h
  · exact h
theorem del_out {H : Hp} {M : List Addr} {a : Addr} (h : a ∉ M) : del H M a = H a := if_neg h
theorem del_in {H : Hp} {M : List Addr} {a : Addr} (h : a ∈ M) : del H M a = none := if_pos h
theorem same_del {F H : Hp} {M : List Addr} (s : Same F H) (h : ∀ m ∈ M, F m = none) : Same F (del H M) := fun a o ha => by
  rw [del_out fun hm => by rw [h a hm] at ha; cases ha]
  exact s _ _ ha
theorem del_mut {F H : Hp} {M : List Addr} {a : Addr} {o : HO} (s : Same F H) (h : F a = none) : Same F (upd H a o) := Same.mut s h
/-- the groups as rows; each one's list is of its own -/
def GRows (H : Hp) : List V → List Grp → Prop := Paired fun v g => ∃ a kl kxs, v = .ref a ∧ H a = some (.tup [.int g.1, .ref kl]) ∧ H kl = some (.lst kxs) ∧ Rows H kiV kxs g.2
theorem GRows.ex {H H' : Hp} (e : Same H H') : ∀ {xs : List V} {gs : List Grp}, GRows H xs gs → GRows H' xs gs
  | _, _, .nil => .nil
  | _, _, .cons ⟨a, kl, kxs, h1, h2, h3, h4⟩ t => .cons ⟨a, kl, kxs, h1, e _ _ h2, e _ _ h3, h4.ex e⟩ (GRows.ex e t)
theorem GRows.app {H : Hp} : ∀ {xs ys : List V} {ds es : List Grp}, GRows H xs ds → GRows H ys es → GRows H (xs ++ ys) (ds ++ es)
  | _, _, _, _, .nil, s => s
  | _, _, _, _, .cons r t, s => .cons r (GRows.app t s)
theorem GRows.get {H : Hp} : ∀ {xs : List V} {ds : List Grp} {i : Nat} {x : V}, GRows H xs ds → xs[i]? = some x → ∃ a kl kxs g, x = .ref a ∧ ds[i]? = some g ∧ H a = some (.tup [.int g.1, .ref kl]) ∧ H kl = some (.lst kxs) ∧ Rows H kiV kxs g.2
  | _, _, i, _, .nil, e => by simp at e
  | _, _, 0, _, .cons ⟨a, kl, kxs, h1, h2, h3, h4⟩ _, e => by simp at e; subst e; exact ⟨a, kl, kxs, _, h1, rfl, h2, h3, h4⟩
  | _, _, i + 1, x, .cons _ t, e => by
    obtain ⟨a, kl, kxs, g, h1, h2, h3⟩ := GRows.get (i := i) (x := x) t (by simpa using e)
    exact ⟨a, kl, kxs, g, h1, by simpa using h2, h3⟩
theorem GRows.len {H : Hp} : ∀ {xs : List V} {ds : List Grp}, GRows H xs ds → xs.length = ds.length
  | _, _, .nil => rfl
  | _, _, .cons _ t => congrArg Nat.succ (GRows.len t)
/-- the groups so far (the last one ahead), the list L; M: L and other lists that change -/
structure GA (M : List Addr) (H : Hp) (L : Addr) (gxs : List V) (b : Int) (ks : List (Wd × Int)) (r : List Grp) (F ys a kl kxs) : Prop where
  hL : H L = some (.lst gxs)
  ex : gxs = ys ++ [.ref a]
  sF : Same F H
  FM : ∀ m ∈ M, F m = none
  hG : GRows F ys r.reverse
  nM : kl ∉ M
  aM : a ∉ M
  Fk : F kl = none
  ha : H a = some (.tup [.int b, .ref kl])
  hk : H kl = some (.lst kxs)
  hR : Rows H kiV kxs ks
section
variable {M : List Addr} {H F : Hp} {L a kl : Addr} {gxs ys kxs : List V} {b : Int} {ks : List (Wd × Int)} {r : List Grp}
theorem GA.new {p : Addr} {o : HO} (G : GA M H L gxs b ks r F ys a kl kxs) (hp : H p = none) : GA M (upd H p o) L gxs b ks r F ys a kl kxs :=
  ⟨Same.new hp _ _ G.hL, G.ex, Same.trans G.sF (Same.new hp), G.FM, G.hG, G.nM, G.aM, G.Fk, Same.new hp _ _ G.ha, Same.new hp _ _ G.hk, G.hR.ex (Same.new hp)⟩
theorem GA.same {H' : Hp} (G : GA M H L gxs b ks r F ys a kl kxs) (e : Same H H') : GA M H' L gxs b ks r F ys a kl kxs :=
  ⟨e _ _ G.hL, G.ex, Same.trans G.sF e, G.FM, G.hG, G.nM, G.aM, G.Fk, e _ _ G.ha, e _ _ G.hk, G.hR.ex e⟩
theorem GA.add {t : Addr} {x : Wd × Int} (G : GA M H L gxs b ks r F ys a kl kxs) (hL : L ∈ M) (ht : H t = some (.tup (kiV x))) : GA M (upd H kl (.lst (kxs ++ [.ref t]))) L gxs b (ks ++ [x]) r F ys a kl (kxs ++ [.ref t]) :=
  ⟨by rw [upd_ne fun (e : L = kl) => G.nM (e ▸ hL)]; exact G.hL, G.ex, Same.mut G.sF G.Fk, G.FM, G.hG, G.nM, G.aM, G.Fk, STup.mutL G.hk _ _ G.ha, upd_same, (G.hR.tup (STup.mutL G.hk)).app (Rows.one (STup.mutL G.hk _ _ ht))⟩
theorem GA.fin (G : GA M H L gxs b ks r F ys a kl kxs) (ht : ∀ m ∈ M, ∀ xs, H m ≠ some (.tup xs)) : GRows (del H M) gxs ((b, ks) :: r).reverse := by
  have s1 : Same F (del H M) := same_del G.sF G.FM
  rw [List.reverse_cons, G.ex]
  refine (G.hG.ex s1).app (.cons ⟨a, kl, kxs, rfl, ?_, ?_, ?_⟩ .nil)
  · rw [del_out G.aM]; exact G.ha
  · rw [del_out G.nM]; exact G.hk
  · refine G.hR.tup fun a' xs h => ?_
    rw [del_out fun hm => ht _ hm _ h]
    exact h
/-- a new group -/
theorem GRows.open {kl a : Addr} {gs : List Grp} (hL : H L = some (.lst gxs)) (hG : GRows (del H M) gxs gs.reverse) (LM : L ∈ M) (hM : ∀ m ∈ M, H m ≠ none) (hkl : H kl = none) (hka : upd H kl (.lst []) a = none) : GA M (upd (upd (upd H kl (.lst [])) a (.tup [.int b, .ref kl])) L (.lst (gxs ++ [.ref a]))) L (gxs ++ [.ref a]) b [] gs (del H M) gxs a kl [] := by
  have ha : H a = none := Same.free' (Same.new hkl) hka
  have k1 : kl ≠ L := fun e => by rw [e, hL] at hkl; cases hkl
  have a1 : a ≠ L := fun e => by rw [e, hL] at ha; cases ha
  have ka : kl ≠ a := fun e => by rw [← e, upd_same] at hka; cases hka
  have kM : kl ∉ M := fun hm => hM _ hm hkl
  have aM : a ∉ M := fun hm => hM _ hm ha
  have s0 : Same H (upd (upd H kl (.lst [])) a (.tup [.int b, .ref kl])) := (Same.new hkl).trans (Same.new hka)
  refine ⟨upd_same, rfl, Same.mut (Same.trans del_same s0) (del_in LM), fun m hm => del_in hm, hG, kM, aM, ?_, ?_, ?_, .nil⟩
  · rw [del_out kM]; exact hkl
  · rw [upd_ne a1, upd_same]
  · rw [upd_ne k1, upd_ne ka, upd_same]
end
abbrev runV (x : Run) : List V := [.int x.1, .str x.2.1.str, .int x.2.2]
def spTr (K : PySem.W.Frag) : Sp := fun vs H Q _ => ∃ (ar a : Addr) (r : Rl) (xs : List V) (rs : List Run), vs = [.ref ar, .ref a] ∧ SqT K H ar r.vs ∧ r.Ok ∧ SqL K H a xs ∧ Rows H runV xs rs ∧ RunsOk rs ∧ ∀ p xs H', Lst H H' p xs runV (tidyRuns r rs) → Q (.ref p) H'
end
end
section
local macro_rules | `(tactic| walk_at "h0") => `(tactic| first
  | exact SqL.of (GA.hL (by assumption))
  | exact GA.hL (by assumption))
section
variable {P : Program} {w : World} {K : PySem.W.Frag} {mg : Str → Option Value} {base : Heap}
theorem wd_flen (x : Wd) : x.str.length ≤ sizeLine := by
  show x.str.cps.size ≤ sizeLine
  rw [wd_size]
  exact wd_len x
theorem Rl.per_sz {r : Rl} (ok : r.Ok) (k : Kd) : 2 ≤ r.per k ∧ r.per k < 2 ^ 301 := by
  have h1 := ok.s1; have h2 := ok.l1; have h3 := ok.p1; have h4 := ok.sz
  have e : (2 : Int) ^ 301 = 2 ^ 300 + 2 ^ 300 := by decide
  cases k
  · show 2 ≤ r.s + r.p ∧ r.s + r.p < 2 ^ 301
    omega
  · show 2 ≤ r.l + r.p ∧ r.l + r.p < 2 ^ 301
    omega
theorem Wd.per_sz {r : Rl} (ok : r.Ok) (x : Wd) : 2 ≤ x.per r ∧ x.per r < 2 ^ 302 := by
  have e : (2 : Int) ^ 302 = 2 ^ 301 + 2 ^ 301 := by decide
  cases x with
  | one k =>
    have := Rl.per_sz ok k
    show 2 ≤ r.per k + 0 ∧ r.per k + 0 < 2 ^ 302
    omega
  | two k =>
    have := Rl.per_sz ok k
    have := Rl.per_sz ok k.ot
    show 2 ≤ r.per k + (r.per k.ot + 0) ∧ r.per k + (r.per k.ot + 0) < 2 ^ 302
    omega
theorem abs_of {i : Int} {n : Nat} (h0 : 0 ≤ i) (h : i < 2 ^ n) : i.natAbs < 2 ^ n := by
  have e : ((2 ^ n : Nat) : Int) = 2 ^ n := by simp
  omega
theorem mulw {r : Rl} {x : Wd} {t : Int} (ok : r.Ok) (h0 : 0 ≤ t) (h : t < 2 ^ 400) : CMulW t (x.per r) := by
  have h1 := Wd.per_sz ok x
  exact wide_mul (a := 400) (b := 302) (abs_of h0 h) (abs_of (by omega) h1.2) (by decide) (by decide) (by decide)
theorem rtot_nn : ∀ {rs : List Run}, (∀ x ∈ rs, 1 ≤ x.2.2) → 0 ≤ rtot rs
  | [], _ => Int.le_refl _
  | y :: rs, h => by
    have hy := h y (List.mem_cons_self ..)
    have h3 : 0 ≤ rtot rs := rtot_nn fun z hz => h z (List.mem_cons_of_mem _ hz)
    have h4 : 0 ≤ (y.2.1.ks.length : Int) * y.2.2 := Int.mul_nonneg (by omega) (by omega)
    show 0 ≤ (y.2.1.ks.length : Int) * y.2.2 + rtot rs
    omega
theorem run_le {rs : List Run} (h : ∀ x ∈ rs, 1 ≤ x.2.2) {x : Run} (hx : x ∈ rs) : x.2.2 ≤ rtot rs ∧ 0 ≤ rtot rs := by
  induction rs with
  | nil => cases hx
  | cons y rs ih =>
    have hy := h y (List.mem_cons_self ..)
    have h2 : ∀ x ∈ rs, 1 ≤ x.2.2 := fun z hz => h z (List.mem_cons_of_mem _ hz)
    have h3 : 0 ≤ rtot rs := by
      cases rs with
      | nil => exact Int.le_refl _
      | cons z rs => exact (rtot_nn h2)
    have h4 : y.2.2 ≤ (y.2.1.ks.length : Int) * y.2.2 := by
      have := y.2.1.len1
      have h4 : (1 : Int) * y.2.2 ≤ (y.2.1.ks.length : Int) * y.2.2 := Int.mul_le_mul_of_nonneg_right (by omega) (by omega)
      omega
    show x.2.2 ≤ (y.2.1.ks.length : Int) * y.2.2 + rtot rs ∧ 0 ≤ (y.2.1.ks.length : Int) * y.2.2 + rtot rs
    rcases List.mem_cons.mp hx with rfl | hx
    · omega
    · have := ih h2 hx
      omega
theorem ih' (z : Grp) (G : List Grp) : 0 ≤ gsum oneC (z :: G) := by
  induction G generalizing z with
  | nil =>
    show 0 ≤ csum oneC z.2 + 0
    rw [csum_one]
    omega
  | cons y G ih =>
    have := ih y
    show 0 ≤ csum oneC z.2 + gsum oneC (y :: G)
    rw [csum_one]
    omega
theorem gone_mem {G : List Grp} {g : Grp} (h : g ∈ G) : (g.2.length : Int) ≤ gsum oneC G ∧ 0 ≤ gsum oneC G := by
  induction G with
  | nil => cases h
  | cons x G ih =>
    have e : gsum oneC (x :: G) = x.2.length + gsum oneC G := by
      show csum oneC x.2 + _ = _
      rw [csum_one]
    have h3 : 0 ≤ gsum oneC G := by
      cases G with
      | nil => exact Int.le_refl _
      | cons z G => exact (ih' z G)
    rw [e]
    rcases List.mem_cons.mp h with rfl | h
    · omega
    · have := ih h
      omega
theorem tr_com {H Hc F : Hp} {ar a f L a' kl : Addr} {r : Rl} {x : Run} {i : Nat} {gxs ys kxs : List V} {b : Int} {ks : List (Wd × Int)} {r' : List Grp} {nx : L2.St → Hp → Prop} {rt : VK} {bk ct : L2.St → Hp → Prop} {lv v8 v9 : Option V}
    (s1 : Same H Hc) (h1 : SqT K H ar r.vs) (ok : r.Ok) (hx1 : 1 ≤ x.2.2) (hx2 : x.2.2 < 2 ^ 400) (hf1 : Hc f = some (.lst [])) (f0 : H f = none) (L0 : H L = none) (G : GA [L, f] Hc L gxs b ks r' F ys a' kl kxs) (hk0 : H kl = none) (hkl : kxs.length ≤ i) (hi2 : i < 100000)
    (hnx : ∀ Hd kxs', Same H Hd → Hd f = some (.lst []) → GA [L, f] Hd L gxs b (ks ++ [(x.2.1, x.2.2)]) r' F ys a' kl kxs' → kxs'.length ≤ i + 1 → nx [some (.ref ar), some (.ref a), some (.ref f), some (.ref L), some (.int (runEnd r x)), some (.int x.1), some (.str x.2.1.str), some (.int x.2.2), v8, v9] Hd) :
    tSeq (tDrop (tBM K "list" rAppend (tOp (rIxT K) (tOp (rIxL K) (tVar 3) (tUn (rU fun i => V.int (-i)) (tC (V.int 1)))) (tC (V.int 1))) (tCons (tTup (tCons (tVar 6) (tCons (tVar 7) tNil))) tNil)))
      (tAsg (tOp (rI0 fun i j => V.int (i + j)) (tVar 5) (tOp (rI CMulW fun i j => V.int (i * j)) (tVar 7) (tCall (spWp K) [] C8.E0 (tCons (tVar 0) (tCons (tVar 6) tNil))))) (gName 4))
      { nx := nx, rt := rt, bk := bk, ct := ct } [some (.ref ar), some (.ref a), some (.ref f), some (.ref L), lv, some (.int x.1), some (.str x.2.1.str), some (.int x.2.2), v8, v9] Hc := by
  walk_at "rd"
  refine r_ixL (SqL.of G.hL) (by rw [G.ex]; exact at_app) ?_
  walk_at "rd"
  refine r_ixT (SqT.of G.ha) rfl ?_
  refine r_tyL (SqL.of G.hk) ?_
  walk_at "rd"
  rename_i t ht
  have G1 := G.new (o := .tup (kiV (x.2.1, x.2.2))) ht
  refine r_append G1.hk (Nat.lt_of_le_of_lt hkl (Nat.lt_trans hi2 (by decide))) ?_
  have G2 := G1.add (x := (x.2.1, x.2.2)) (t := t) (List.mem_cons_self ..) upd_same
  have s2 : Same H (upd (upd Hc t (.tup (kiV (x.2.1, x.2.2)))) kl (.lst (kxs ++ [.ref t]))) := Same.mut (s1.trans (Same.new ht)) hk0
  have hf2 : upd (upd Hc t (.tup (kiV (x.2.1, x.2.2)))) kl (.lst (kxs ++ [.ref t])) f = some (.lst []) := by
    rw [upd_ne fun (e : f = kl) => G.nM (by rw [← e]; exact List.mem_cons_of_mem _ (List.mem_cons_self ..))]
    exact Same.new ht _ _ hf1
  walk_at "rd"
  refine u_wp (Same.tup s2 h1) fun H3 s3 => ?_
  refine r_I (mulw ok (by omega) hx2) ?_
  walk_at "rd"
  refine hnx _ _ (s2.trans s3) (s3 _ _ hf2) (G2.same s3) (by rw [List.length_append]; exact Nat.succ_le_succ hkl)
theorem ok_tidy_runs (T : Txt K mg) : C8.Cal P w K mg base 6 "tidy_runs" (spTr K) [] := by
  refine calD (D_tidy_runs T) (T_tidy_runs T) sc_tidy_runs (fun _ _ _ _ _ _ us hl => match us, hl with | [_, _], _ => rfl) (fun vs H Q E h => ?_) (fun cdv A outer s H vs Q E hr h => ?_)
  · obtain ⟨_, _, _, _, _, rfl, _⟩ := h
    rfl
  · have hu := hu_of hr
    refine ⟨_, (pss_cons (ps_par3 rfl sc_tidy_runs.nd (i := 2) (j := 3) (l := 4) rfl rfl rfl (by decide) (by decide) (by decide) rfl rfl rfl (pa_cons (pe_lst pa_nil) (pa_cons (pe_lst pa_nil) (pa_cons pe_non pa_nil))) rfl)
      (pss_cons (ps_for PassesOwn.never rfl (pi_list (pv 1)) (pg_tup (n := 3) rfl (pgs_cons (pg_name (i := 5) sc_tidy_runs.nd rfl (Or.inl rfl)) (pgs_cons (pg_name (i := 6) sc_tidy_runs.nd rfl (Or.inl rfl)) (pgs_cons (pg_name (i := 7) sc_tidy_runs.nd rfl (Or.inl rfl)) pgs_nil))))
      (pss_cons (ps_if (PW.pt (pw_or (pt_cmpR oq_isN (pv 4) pe_non (nomark _)) (pw_or1 (pt_cmpR op_gt (pv 5) (pv 4) (nomark _)))))
      (pss_one (ps_expr (pe_bm PySem.F.plainAttrs_list PySem.F.slot_list_append PySem.F.type_list_append mt_append (pv 3) (pa_cons (pe_tup (pa_cons (pv 5) (pa_cons (pe_lst pa_nil) pa_nil))) pa_nil))))
      pss_nil)
      (pss_cons (ps_expr (pe_bm PySem.F.plainAttrs_list PySem.F.slot_list_append PySem.F.type_list_append mt_append (pe_ix ix_tup (pe_ix ix_list (pv 3) (pe_un un_neg pe_int) (fun _ _ => rfl)) pe_int (fun _ _ => rfl)) (pa_cons (pe_tup (pa_cons (pv 6) (pa_cons (pv 7) pa_nil))) pa_nil)))
      (pss_one (ps_set (i := 4) sc_tidy_runs.nd rfl (Or.inl rfl) (pe_op op_add (pv 5) (pe_op op_mulW (pv 7) (C8.pe_c (ok_word_period T) hr (by decide) rfl (pa_cons (pv 0) (pa_cons (pv 6) pa_nil))))))))))
      (pss_cons (ps_for PassesOwn.never rfl (pi_list (pv 3)) (pg_tup (n := 2) rfl (pgs_cons (pg_name (i := 5) sc_tidy_runs.nd rfl (Or.inl rfl)) (pgs_cons (pg_name (i := 8) sc_tidy_runs.nd rfl (Or.inl rfl)) pgs_nil)))
      (pss_cons (ps_set (i := 9) sc_tidy_runs.nd rfl (Or.inl rfl) (pv 5))
      (pss_one (ps_for PassesOwn.never rfl (pi_list (C8.pe_c (ok_tidy_kinds T) hr (by decide) rfl (pa_cons (pv 8) pa_nil))) (pg_tup (n := 2) rfl (pgs_cons (pg_name (i := 6) sc_tidy_runs.nd rfl (Or.inl rfl)) (pgs_cons (pg_name (i := 7) sc_tidy_runs.nd rfl (Or.inl rfl)) pgs_nil)))
      (pss_cons (ps_expr (pe_bm PySem.F.plainAttrs_list PySem.F.slot_list_append PySem.F.type_list_append mt_append (pv 2) (pa_cons (pe_tup (pa_cons (pv 9) (pa_cons (pv 6) (pa_cons (pv 7) pa_nil)))) pa_nil)))
      (pss_one (ps_aug (i := 9) sc_tidy_runs.nd rfl (Or.inl rfl) (pe_op op_mulW (pv 7) (C8.pe_c (ok_word_period T) hr (by decide) rfl (pa_cons (pv 0) (pa_cons (pv 6) pa_nil)))) ip_add)))))))
      (pss_one (ps_ret (pv 2)))))), ?_⟩
    walk_at "cx"
    obtain ⟨ar, a, r, xs, rs, rfl, h1, ok, h2, hR, hok, q⟩ := h
    walk_at "rd"
    rename_i f hf L hL
    have sH1 : Same H (upd (upd H f (.lst [])) L (.lst [])) := (Same.new hf).trans (Same.new hL)
    have hLf : f ≠ L := ne_of_n upd_same hL
    have hL0 : H L = none := Same.free' (Same.new hf) hL
    refine for_it walk_list (fun i σ Ha => ∃ (last : Option Int) (gs : List Grp) (gxs : List V) (v5 v6 v7 v8 v9 : Option V), σ = [some (.ref ar), some (.ref a), some (.ref f), some (.ref L), some (lastV last), v5, v6, v7, v8, v9] ∧ Same H Ha ∧ Ha f = some (.lst []) ∧ groupsGo r (rs.drop i) last gs = groupsGo r rs none [] ∧ gxs.length ≤ i ∧
        ((last = none ∧ gs = [] ∧ gxs = [] ∧ Ha L = some (.lst [])) ∨ ∃ b ks r' F ys a' kl kxs, last ≠ none ∧ gs = (b, ks) :: r' ∧ GA [L, f] Ha L gxs b ks r' F ys a' kl kxs ∧ kxs.length ≤ i ∧ H kl = none))
      ⟨none, [], [], none, none, none, none, none, rfl, sH1, by rw [upd_ne hLf]; exact upd_same, rfl, Nat.le_refl _, .inl ⟨rfl, rfl, rfl, upd_same⟩⟩ (fun i σ Ha _ z => by obtain ⟨_, _, _, _, _, _, _, _, _, s1, _⟩ := z; exact s1.seq h2) ?_ ?_
    · rintro i y σ Ha Hb hi ⟨last, gs, gxs, v5, v6, v7, v8, v9, rfl, s1, hf1, hgo, hgl, hcase⟩ ⟨rfl, hy⟩
      obtain ⟨ea, x, rfl, he, hea⟩ := hR.get hy
      have hx1 : 1 ≤ x.2.2 := hok.t1 x (List.mem_of_getElem? he)
      have hx2 : x.2.2 < 2 ^ 400 := by
        have h5 := run_le hok.t1 (List.mem_of_getElem? he)
        have h6 := hok.tot
        omega
      have hi2 : i < 100000 := by have := hok.len; have h6 := (List.getElem?_eq_some_iff.mp he).1; omega
      have hea2 := s1 _ _ hea
      rw [drop_cons he, groupsGo_cons] at hgo
      rcases hcase with ⟨rfl, rfl, rfl, hLa⟩ | ⟨b, ks, r', F, ys, a', kl, kxs, hln, rfl, G, hkl, hk1⟩
      · rw [show lastV none = V.non from rfl]
        walk_at "rd"
        rename_i kl hk0 ga hga
        have hM : ∀ m ∈ [L, f], Hb m ≠ none := fun m hm e => by
          rcases List.mem_cons.mp hm with rfl | hm
          · rw [hLa] at e; cases e
          · rw [List.mem_singleton.mp hm, hf1] at e; cases e
        have G0 := GRows.open (b := x.1) (gs := []) (gxs := []) (M := [L, f]) hLa .nil (List.mem_cons_self ..) hM hk0 hga
        have s2 : Same H (upd (upd Hb kl (.lst [])) ga (.tup [.int x.1, .ref kl])) := s1.trans ((Same.new hk0).trans (Same.new hga))
        refine r_append (Same.new hga _ _ (Same.new hk0 _ _ hLa)) (by decide) ?_
        refine tr_com (i := i) (Same.mut s2 hL0) h1 ok hx1 hx2 (by rw [upd_ne hLf]; exact Same.new hga _ _ (Same.new hk0 _ _ hf1)) hf hL0 G0 (Same.free' s1 hk0) (Nat.zero_le _) hi2 fun Hd kxs' s4 hf4 G4 hk4 => ?_
        have hkH := Same.free' s1 hk0
        exact ⟨some (runEnd r x), _, _, _, _, _, _, _, rfl, s4, hf4, hgo, (show ([] ++ [V.ref ga]).length ≤ i + 1 from by show 1 ≤ i + 1; omega), .inr ⟨_, _, _, _, _, _, _, _, by simp, rfl, G4, hk4, hkH⟩⟩
      · obtain ⟨e, rfl⟩ := Option.ne_none_iff_exists'.mp hln
        rw [show lastV (some e) = V.int e from rfl]
        walk_at "rd"
        rcases Int.lt_or_le e x.1 with hlt | hlt
        · refine r_ifT (decide_eq_true hlt) ?_
          walk_at "rd"
          rename_i kl2 hk0 ga hga
          have hM : ∀ m ∈ [L, f], Hb m ≠ none := fun m hm e => by
            rcases List.mem_cons.mp hm with rfl | hm
            · rw [G.hL] at e; cases e
            · rw [List.mem_singleton.mp hm, hf1] at e; cases e
          have hM2 : ∀ m ∈ [L, f], ∀ xs, Hb m ≠ some (.tup xs) := fun m hm xs e => by
            rcases List.mem_cons.mp hm with rfl | hm
            · rw [G.hL] at e; cases e
            · rw [List.mem_singleton.mp hm, hf1] at e; cases e
          have G0 := GRows.open (b := x.1) (gs := (b, ks) :: r') (M := [L, f]) G.hL (G.fin hM2) (List.mem_cons_self ..) hM hk0 hga
          have s2 : Same H (upd (upd Hb kl2 (.lst [])) ga (.tup [.int x.1, .ref kl2])) := s1.trans ((Same.new hk0).trans (Same.new hga))
          refine r_append (Same.new hga _ _ (Same.new hk0 _ _ G.hL)) (Nat.lt_of_le_of_lt hgl (Nat.lt_trans hi2 (by decide))) ?_
          refine tr_com (i := i) (Same.mut s2 hL0) h1 ok hx1 hx2 (by rw [upd_ne hLf]; exact Same.new hga _ _ (Same.new hk0 _ _ hf1)) hf hL0 G0 (Same.free' s1 hk0) (Nat.zero_le _) hi2 fun Hd kxs' s4 hf4 G4 hk4 => ?_
          have hkH := Same.free' s1 hk0
          have eg : grpStep x (some e) ((b, ks) :: r') = (x.1, [] ++ [(x.2.1, x.2.2)]) :: (b, ks) :: r' := by
            unfold grpStep openG
            simp only [if_pos hlt]
            rfl
          rw [eg] at hgo
          exact ⟨some (runEnd r x), _, _, _, _, _, _, _, rfl, s4, hf4, hgo, by rw [List.length_append]; exact Nat.succ_le_succ hgl, .inr ⟨_, _, _, _, _, _, _, _, by simp, rfl, G4, hk4, hkH⟩⟩
        · refine r_ifF (decide_eq_false (show ¬ e < x.1 by omega)) ?_
          refine tr_com (i := i) s1 h1 ok hx1 hx2 hf1 hf hL0 G hk1 hkl hi2 fun Hd kxs' s4 hf4 G4 hk4 => ?_
          have hkH := hk1
          have eg : grpStep x (some e) ((b, ks) :: r') = (b, ks ++ [(x.2.1, x.2.2)]) :: r' := by
            unfold grpStep openG
            simp only [if_neg (show ¬ e < x.1 by omega)]
            rfl
          rw [eg] at hgo
          exact ⟨some (runEnd r x), _, _, _, _, _, _, _, rfl, s4, hf4, hgo, Nat.le_succ_of_le hgl, .inr ⟨_, _, _, _, _, _, _, _, by simp, rfl, G4, hk4, hkH⟩⟩
    · rintro σ Ha ⟨last, gs, gxs, v5, v6, v7, v8, v9, rfl, s1, hf1, hgo, hgl, hcase⟩
      rw [hR.len, List.drop_length] at hgo
      have hgo2 : gs = groupsGo r rs none [] := hgo
      have hGL : GRows (del Ha [L, f]) gxs gs.reverse ∧ Ha L = some (.lst gxs) := by
        rcases hcase with ⟨_, rfl, rfl, hLa⟩ | ⟨b, ks, r', F, ys, a', kl, kxs, _, rfl, G, _, _⟩
        · exact ⟨.nil, hLa⟩
        · refine ⟨G.fin fun m hm xs e => ?_, G.hL⟩
          rcases List.mem_cons.mp hm with rfl | hm
          · rw [G.hL] at e; cases e
          · rw [List.mem_singleton.mp hm, hf1] at e; cases e
      clear hcase
      rw [hgo2] at hGL
      obtain ⟨hGR, hLa⟩ := hGL
      have hmf : ∀ m ∈ [f], m = f := fun m hm => List.mem_singleton.mp hm
      have hLn : L ∉ [f] := fun hm => hLf (hmf _ hm).symm
      have sF : Same H (del Ha [f]) := same_del s1 fun m hm => by rw [hmf m hm]; exact hf
      have hGF : GRows (del Ha [f]) gxs (groupsGo r rs none []).reverse := hGR.ex (same_del del_same fun m hm => by rw [hmf m hm]; exact del_in (by simp))
      have hLF : del Ha [f] L = some (.lst gxs) := by rw [del_out hLn]; exact hLa
      have B0 : Lst (del Ha [f]) Ha f [] runV [] := ⟨del_same, del_in (by simp), hf1, .nil⟩
      obtain ⟨gall, gt, gl⟩ := groups_ok (r := r) hok.t1
      have htl := tidyRuns_len (r := r) hok.t1
      have hrl := hok.len
      have htt := hok.tot
      have hgt := fun g hg y hy => grp_tot (r := r) hok.t1 (g := g) hg (y := y) hy
      rw [tidyRuns_eq] at q htl
      generalize hG : (groupsGo r rs none []).reverse = G at *
      generalize hF2 : del Ha [f] = F2 at *
      clear hgo hgo2 hGR s1 hF2
      walk_at "rd"
      refine for_it walk_list (fun i σ Hb => ∃ (fxs : List V) (fd : List Run) (v5 v6 v7 v8 v9 : Option V), σ = [some (.ref ar), some (.ref a), some (.ref f), some (.ref L), some (lastV last), v5, v6, v7, v8, v9] ∧ Lst F2 Hb f fxs runV fd ∧ fd ++ layAll r (G.drop i) = layAll r G)
        ⟨[], [], _, _, _, _, _, rfl, B0, rfl⟩ (fun i σ Hb _ z => by obtain ⟨_, _, _, _, _, _, _, _, B, _⟩ := z; exact SqL.of (B.s _ _ hLF)) ?_ ?_
      · rintro i y σ Hb Hb' hi ⟨fxs, fd, v5, v6, v7, v8, v9, rfl, B, hfd⟩ ⟨rfl, hy⟩
        obtain ⟨ga, kl, kxs, g, rfl, hg, hga, hk, hRk⟩ := hGF.get hy
        have hga2 := B.s _ _ hga
        have hk2 := B.s _ _ hk
        have hgm : g ∈ G := List.mem_of_getElem? hg
        have hkl : g.2.length ≤ 100000 := by
          have := gone_mem hgm
          omega
        walk_at "rd"
        refine u_tk (SqL.of hk2) (hRk.ex B.s) (gall g hgm) (by omega) fun p pxs H3 Lp => ?_
        walk_at "rd"
        have B3 := B.ex Lp.s
        have hpf : p ≠ f := fun e => by have := Lp.L0; rw [e, B.hL] at this; cases this
        have hpn : p ∉ [f] := fun hm => hpf (hmf _ hm)
        have hRp : Rows (del H3 [f]) kiV pxs (tidyKinds g.2) := Lp.hR.tup fun a xs h => by
          rw [del_out fun hm => by rw [hmf _ hm, B3.hL] at h; cases h]
          exact h
        have hpF : del H3 [f] p = some (.lst pxs) := by rw [del_out hpn]; exact Lp.hL
        have sF2 : Same F2 (del H3 [f]) := same_del B3.s fun m hm => by rw [hmf m hm]; exact B3.L0
        have B4 : Lst (del H3 [f]) H3 f fxs runV fd := ⟨del_same, del_in (by simp), B3.hL, B3.hR⟩
        have hgt2 := hgt g hgm
        rw [drop_cons hg] at hfd
        have hfd2 : fd ++ layGo r g.1 (tidyKinds g.2) ++ layAll r (G.drop (i + 1)) = layAll r G := by rw [List.append_assoc]; exact hfd
        generalize hF3 : del H3 [f] = F3 at *
        generalize hks : tidyKinds g.2 = ks at *
        clear hF3 hfd hks B3 Lp
        refine for_it walk_list (fun j σ Hc => ∃ (fxs : List V) (fd : List Run) (at_ : Int) (v6 v7 : Option V), σ = [some (.ref ar), some (.ref a), some (.ref f), some (.ref L), some (lastV last), some (.int g.1), v6, v7, some (.ref kl), some (.int at_)] ∧ Lst F3 Hc f fxs runV fd ∧ fd ++ layGo r at_ (ks.drop j) ++ layAll r (G.drop (i + 1)) = layAll r G)
          ⟨fxs, fd, g.1, _, _, rfl, B4, hfd2⟩ (fun i σ Hc _ z => by obtain ⟨_, _, _, _, _, _, B, _⟩ := z; exact SqL.of (B.s _ _ hpF)) ?_ ?_
        · rintro j y2 σ Hc Hc' hj ⟨fxs, fd, at_, v6, v7, rfl, B5, hfd⟩ ⟨rfl, hy2⟩
          obtain ⟨xa, x, rfl, hx, hxa⟩ := hRp.get hy2
          have hxa2 := B5.s _ _ hxa
          obtain ⟨hx1, hx2⟩ := hgt2 x (List.mem_of_getElem? hx)
          obtain ⟨wd, t⟩ := x
          rw [drop_cons hx] at hfd
          have hlen : fxs.length < sizeLine := by
            have e1 := congrArg List.length hfd
            rw [List.length_append, List.length_append] at e1
            rw [B5.len]
            have e3 : sizeLine = 16777216 := rfl
            omega
          walk_at "rd"
          rename_i tt htt2
          have B6 := B5.new (o := .tup (runV (at_, wd, t))) htt2
          refine r_append B6.hL hlen ?_
          have B7 := B6.push (d := (at_, wd, t)) (t := tt) upd_same
          walk_at "rd"
          refine u_wp (Same.tup (Same.trans sF (Same.trans sF2 B7.s)) h1) fun H7 s7 => ?_
          refine r_I (mulw ok (show 0 ≤ t by simp only at hx1; omega) (show t < 2 ^ 400 by simp only at hx2; omega)) ?_
          walk_at "rd"
          refine ⟨_, _, at_ + t * wd.per r, _, _, rfl, B7.ex s7, ?_⟩
          rw [List.append_assoc, List.append_assoc]
          rw [List.append_assoc] at hfd
          exact hfd
        · rintro σ Hc ⟨fxs, fd, at_, v6, v7, rfl, B5, hfd⟩
          rw [hRp.len, List.drop_length] at hfd
          walk_at "rd"
          refine ⟨_, _, _, _, _, _, _, rfl, B5.weak sF2, ?_⟩
          rw [show layGo r at_ [] = [] from rfl, List.append_nil] at hfd
          exact hfd
      · rintro σ Hb ⟨fxs, fd, v5, v6, v7, v8, v9, rfl, B, hfd⟩
        rw [hGF.len, List.drop_length] at hfd
        rw [show layAll r [] = [] from rfl, List.append_nil] at hfd
        rw [hfd] at B
        walk_at "rd"
        exact q _ _ _ (B.weak sF)
theorem u_tr {H : Hp} {Q : VK} {E : XK} {ar a : Addr} {r : Rl} {xs : List V} {rs : List Run} (h1 : SqT K H ar r.vs) (ok : r.Ok) (h2 : SqL K H a xs) (h3 : Rows H runV xs rs) (h4 : RunsOk rs) (q : ∀ p xs H', Lst H H' p xs runV (tidyRuns r rs) → Q (.ref p) H') : spTr K [.ref ar, .ref a] H Q E := ⟨ar, a, r, xs, rs, rfl, h1, ok, h2, h3, h4, q⟩
end
end
section
section
variable {P : Program} {w : World} {K : PySem.W.Frag} {mg : Str → Option Value} {base : Heap}
theorem r_pcons {tk tv : TE} {r : List (TE × TE)} {σ : L2.St} {H : Hp} {Q : List (V × V) → Hp → Prop} (h : tk σ H fun x H1 => tv σ H1 fun y H2 => tPairs r σ H2 fun ps H3 => Q ((x, y) :: ps) H3) : tPairs ((tk, tv) :: r) σ H Q := h
theorem r_pnil {σ : L2.St} {H : Hp} {Q : List (V × V) → Hp → Prop} (h : Q [] H) : tPairs [] σ H Q := h
def spOc (K : PySem.W.Frag) : Sp := fun vs H Q _ => ∃ (ar dn : Addr) (r : Rl) (k : Kd) (down : List Kd) (other own : Bool), vs = [.ref ar, kv k, .ref dn, .bl other, .bl own] ∧ SqT K H ar r.vs ∧ SqL K H dn (down.map kv) ∧ down.length ≤ 2 ∧ ∀ H', Same H H' → Q (okv (outcome r k down other own)) H'
theorem ok_outcome (T : Txt K mg) : C8.Cal P w K mg base 2 "outcome" (spOc K) [] := by
  refine calD (D_outcome T) (T_outcome T) sc_outcome (fun _ _ _ _ _ _ us hl => match us, hl with | [_, _, _, _, _], _ => rfl) (fun vs H Q E h => ?_) (fun cdv A outer s H vs Q E hr h => ?_)
  · obtain ⟨_, _, _, _, _, _, _, rfl, _⟩ := h
    rfl
  · have hu := hu_of hr
    refine ⟨_, (pss_cons (ps_par rfl sc_outcome.nd (i := 5) (j := 6) rfl rfl (by decide) rfl rfl (pa_cons (C8.pe_c (ok_other_of T) hr (by decide) rfl (pa_cons (pv 1) pa_nil)) (pa_cons (pe_ix ix_tup (pv 0) pe_int (fun _ _ => rfl)) pa_nil)) rfl)
      (pss_cons (ps_if (pt_val (pv 3))
      (pss_one (ps_ret (pv 5)))
      pss_nil)
      (pss_cons (ps_if (pt_cmpR op_eq (pe_callB cq_len (by rfl) (T_len T) PySem.boot_len (pa_cons (pv 2) pa_nil)) pe_int (nomark _))
      (pss_one (ps_ret (pe_dget2 hu (pe_disp (pps_cons pe_str (pv 5) (pps_cons pe_str (pv 1) pps_nil)) (by rfl) (by rfl) (fun z => by cases z) (by decide)) (pv 6) (pv 6) ⟨by rfl, by rfl, by rfl, by rfl⟩)))
      pss_nil)
      (pss_cons (ps_if (pt_cmpR op_eq (pe_callB cq_len (by rfl) (T_len T) PySem.boot_len (pa_cons (pv 2) pa_nil)) pe_int (nomark _))
      (pss_one (ps_ret (pe_ix ix_list (pv 2) pe_int (fun _ _ => rfl))))
      pss_nil)
      (pss_one (ps_ret (pe_ifExp (pt_val (pv 4)) (pv 1) pe_non))))))), ?_⟩
    walk_at "cx"
    obtain ⟨ar, dn, r, k, down, other, own, rfl, h1, h2, hl, q⟩ := h
    walk_at "rd"
    cases other with
    | true =>
      walk_at "rd"
      exact q _ (Same.refl _)
    | false =>
      walk_at "rd"
      rcases down with _ | ⟨d, _ | ⟨d2, _ | ⟨d3, t⟩⟩⟩
      · walk_at "rd"
        cases own with
        | true =>
          walk_at "rd"
          exact q _ (Same.refl _)
        | false =>
          walk_at "rd"
          exact q _ (Same.refl _)
      · walk_at "rd"
        exact q _ (Same.refl _)
      · walk_at "rd"
        intro p hp
        refine r_pcons ?_
        walk_at "rd"
        refine r_pcons ?_
        walk_at "rd"
        refine r_pnil ?_
        refine ⟨upd_same, [(.inr "turn", kv k.ot), (.inr "stay", kv k)], rfl, (show 2 ≤ 15 by decide), ?_⟩
        refine ⟨_, rfl, .inl ⟨_, .inl upd_same⟩, ?_⟩
        walk_at "rd"
        refine ⟨_, DGet.k (k := .inr r.both.str) upd_same, ?_⟩
        walk_at "rd"
        have s2 : Same H (upd (upd H p (.dK [])) p (.dK (mergeK [] [(.inr "turn", kv k.ot), (.inr "stay", kv k)]))) := Same.mut (Same.new hp) hp
        have e : okv (outcome r k [d, d2] false own) = (valV (mergeK [] [(.inr "turn", kv k.ot), (.inr "stay", kv k)]) (Sum.inr r.both.str : Key)).getD (.str r.both.str) := by
          show kv (bothKind r k) = _
          unfold bothKind
          cases r.both <;> rfl
        have q2 := q _ s2
        rw [e] at q2
        exact q2
      · exact absurd hl (by simp)
theorem u_oc {H : Hp} {Q : VK} {E : XK} {ar dn : Addr} {r : Rl} {k : Kd} {down : List Kd} {other own : Bool} (h1 : SqT K H ar r.vs) (h2 : SqL K H dn (down.map kv)) (h3 : down.length ≤ 2) (q : ∀ H', Same H H' → Q (okv (outcome r k down other own)) H') : spOc K [.ref ar, kv k, .ref dn, .bl other, .bl own] H Q E := ⟨ar, dn, r, k, down, other, own, rfl, h1, h2, h3, q⟩
end
end
section
section
variable {P : Program} {w : World} {K : PySem.W.Frag} {mg : Str → Option Value} {base : Heap}
/-! ### the state -/
abbrev logV (x : Int × Sw) : List V := [.int x.1, .str x.2.str]
def cntK (c : Sw → Int) : List (Key × V) := allSw.map fun w => ((.inr w.str : Key), V.int (c w))
theorem sw_all : ∀ w : Sw, w ∈ allSw
  | .press .s => by decide
  | .press .l => by decide
  | .release .s => by decide
  | .release .l => by decide
  | .begin .s => by decide
  | .begin .l => by decide
  | .hear => by decide
  | .remember .s => by decide
  | .remember .l => by decide
  | .idle => by decide
theorem sw_inj0 : ∀ a ∈ allSw, ∀ b ∈ allSw, a.str = b.str → a = b := by decide +kernel
theorem sw_inj {a b : Sw} (h : a.str = b.str) : a = b := sw_inj0 a (sw_all a) b (sw_all b) h
theorem cnt_get (c : Sw → Int) : ∀ w : Sw, valV (cntK c) (.inr w.str : Key) = some (.int (c w))
  | .press .s => rfl
  | .press .l => rfl
  | .release .s => rfl
  | .release .l => rfl
  | .begin .s => rfl
  | .begin .l => rfl
  | .hear => rfl
  | .remember .s => rfl
  | .remember .l => rfl
  | .idle => rfl
theorem cnt_put (c : Sw → Int) (n : Int) : ∀ w : Sw, putK (cntK c) (.inr w.str : Key) (.int n) = cntK (fun x => if x = w then n else c x)
  | .press .s => rfl
  | .press .l => rfl
  | .release .s => rfl
  | .release .l => rfl
  | .begin .s => rfl
  | .begin .l => rfl
  | .hear => rfl
  | .remember .s => rfl
  | .remember .l => rfl
  | .idle => rfl
theorem cnt_add (c : Sw → Int) (w : Sw) (n : Int) : putK (cntK c) (.inr w.str : Key) (.int (c w + n)) = cntK (addC w n c) := by
  rw [cnt_put c (c w + n) w]
  congr 1
  funext x
  unfold addC
  split
  · rename_i e
    rw [e]
  · rfl
theorem cnt_len (c : Sw → Int) : (cntK c).length < sizeLine := by
  show 10 < sizeLine
  decide
/-- where a State's parts lie -/
structure StA where
  dx : Addr
  Dn : Addr
  R : Addr
  C : Addr
  G : Addr
  ar : Addr
  rxs : List V
  gxs : List V
  vk : V
def StA.fs (a : StA) (st : MSt) : List (Str × V) := [("kept_rules", .ref a.ar), ("kept_is_logged", .bl st.logged), ("kept_kind", a.vk), ("kept_begin", .int st.beg), ("kept_is_heard", .bl st.heard), ("kept_is_other", .bl st.other), ("kept_is_own", .bl st.own), ("kept_down", .ref a.Dn), ("kept_runs", .ref a.R), ("kept_counts", .ref a.C), ("kept_log", .ref a.G)]
structure StAt (K : PySem.W.Frag) (F H : Hp) (p : Addr) (a : StA) (st : MSt) : Prop where
  s : Same F H
  p0 : F p = none
  R0 : F a.R = none
  C0 : F a.C = none
  G0 : F a.G = none
  rl : SqT K F a.ar st.rules.vs
  ok : st.rules.Ok
  ek : a.vk = okv st.kind
  hp : H p = some (.ins (He.ga K "State") a.dx (a.fs st))
  hD : H a.Dn = some (.lst (st.down.map kv))
  hR : H a.R = some (.lst a.rxs)
  hC : H a.C = some (.dK (cntK st.cnt))
  hG : H a.G = some (.lst a.gxs)
  rR : Rows H runV a.rxs st.runs
  rG : Rows H logV a.gxs st.log
  dR : a.Dn ≠ a.R
  dG : a.Dn ≠ a.G
  RG : a.R ≠ a.G
  D0 : F a.Dn = none
def SAt (K : PySem.W.Frag) (F H : Hp) (p : Addr) (st : MSt) : Prop := ∃ a, StAt K F H p a st
section
variable {F H H' : Hp} {p : Addr} {a : StA} {st : MSt}
theorem StAt.sat (S : StAt K F H p a st) : SAt K F H p st := ⟨a, S⟩
theorem StAt.ex (S : StAt K F H p a st) (e : Same H H') : StAt K F H' p a st :=
  ⟨Same.trans S.s e, S.p0, S.R0, S.C0, S.G0, S.rl, S.ok, S.ek, e _ _ S.hp, e _ _ S.hD, e _ _ S.hR, e _ _ S.hC, e _ _ S.hG, S.rR.ex e, S.rG.ex e, S.dR, S.dG, S.RG, S.D0⟩
theorem StAt.new {q : Addr} {o : HO} (S : StAt K F H p a st) (h : H q = none) : StAt K F (upd H q o) p a st := S.ex (Same.new h)
theorem StAt.rule (S : StAt K F H p a st) : SqT K H a.ar st.rules.vs := Same.tup S.s S.rl
/-- the object itself changes -/
theorem StAt.put {st' : MSt} {Dn' : Addr} {vk' : V} (S : StAt K F H p a st) (er : st'.rules = st.rules) (ek : vk' = okv st'.kind) (hD : H Dn' = some (.lst (st'.down.map kv))) (dR : Dn' ≠ a.R) (dG : Dn' ≠ a.G) (D0 : F Dn' = none) (e1 : st'.runs = st.runs) (e2 : st'.log = st.log) (e3 : st'.cnt = st.cnt) {fs : List (Str × V)} (ef : fs = ({ a with Dn := Dn', vk := vk' } : StA).fs st') : StAt K F (upd H p (.ins (He.ga K "State") a.dx fs)) p { a with Dn := Dn', vk := vk' } st' :=
  have n : ∀ (q : Addr) (o : HO), H q = some o → (∀ C dx fs, o ≠ .ins C dx fs) → upd H p (.ins (He.ga K "State") a.dx fs) q = some o := fun q o hq ho => by
    rw [upd_ne fun e => by rw [e, S.hp] at hq; exact ho _ _ _ (Option.some.inj hq).symm]
    exact hq
  ⟨Same.mut S.s S.p0, S.p0, S.R0, S.C0, S.G0, by rw [er]; exact S.rl, by rw [er]; exact S.ok, ek, by rw [upd_same, ef], n _ _ hD (by simp), n _ _ S.hR (by simp), by rw [e3]; exact n _ _ S.hC (by simp), n _ _ S.hG (by simp), by rw [e1]; exact S.rR.tup (STup.mutI S.hp), by rw [e2]; exact S.rG.tup (STup.mutI S.hp), dR, dG, S.RG, D0⟩

theorem StAt.set_some (S : StAt K F H p a st) (k : Kd) : StAt K F (upd H p (.ins (He.ga K "State") a.dx (putF "kept_kind" (kv k) (a.fs st)))) p { a with vk := kv k } { st with kind := some k } :=
  S.put (Dn' := a.Dn) (st' := { st with kind := some k }) rfl rfl S.hD S.dR S.dG S.D0 rfl rfl rfl rfl
theorem StAt.set_none (S : StAt K F H p a st) (_ : Unit) : StAt K F (upd H p (.ins (He.ga K "State") a.dx (putF "kept_kind" (.non) (a.fs st)))) p { a with vk := .non } { st with kind := none } :=
  S.put (Dn' := a.Dn) (st' := { st with kind := none }) rfl rfl S.hD S.dR S.dG S.D0 rfl rfl rfl rfl
theorem StAt.set_beg (S : StAt K F H p a st) (i : Int) : StAt K F (upd H p (.ins (He.ga K "State") a.dx (putF "kept_begin" (.int i) (a.fs st)))) p { a with vk := a.vk } { st with beg := i } :=
  S.put (Dn' := a.Dn) (st' := { st with beg := i }) rfl S.ek S.hD S.dR S.dG S.D0 rfl rfl rfl rfl
theorem StAt.set_heard (S : StAt K F H p a st) (b : Bool) : StAt K F (upd H p (.ins (He.ga K "State") a.dx (putF "kept_is_heard" (.bl b) (a.fs st)))) p { a with vk := a.vk } { st with heard := b } :=
  S.put (Dn' := a.Dn) (st' := { st with heard := b }) rfl S.ek S.hD S.dR S.dG S.D0 rfl rfl rfl rfl
theorem StAt.set_other (S : StAt K F H p a st) (b : Bool) : StAt K F (upd H p (.ins (He.ga K "State") a.dx (putF "kept_is_other" (.bl b) (a.fs st)))) p { a with vk := a.vk } { st with other := b } :=
  S.put (Dn' := a.Dn) (st' := { st with other := b }) rfl S.ek S.hD S.dR S.dG S.D0 rfl rfl rfl rfl
theorem StAt.set_own (S : StAt K F H p a st) (b : Bool) : StAt K F (upd H p (.ins (He.ga K "State") a.dx (putF "kept_is_own" (.bl b) (a.fs st)))) p { a with vk := a.vk } { st with own := b } :=
  S.put (Dn' := a.Dn) (st' := { st with own := b }) rfl S.ek S.hD S.dR S.dG S.D0 rfl rfl rfl rfl
theorem StAt.set_down (S : StAt K F H p a st) {Dn' : Addr} {down' : List Kd} (hD : H Dn' = some (.lst (down'.map kv))) (dR : Dn' ≠ a.R) (dG : Dn' ≠ a.G) (D0 : F Dn' = none) : StAt K F (upd H p (.ins (He.ga K "State") a.dx (putF "kept_down" (.ref Dn') (a.fs st)))) p { a with Dn := Dn' } { st with down := down' } :=
  S.put (Dn' := Dn') (vk' := a.vk) (st' := { st with down := down' }) rfl S.ek hD dR dG D0 rfl rfl rfl rfl
theorem StAt.add_run (S : StAt K F H p a st) {t : Addr} {x : Run} (ht : H t = some (.tup (runV x))) : StAt K F (upd H a.R (.lst (a.rxs ++ [.ref t]))) p { a with rxs := a.rxs ++ [.ref t] } { st with runs := st.runs ++ [x] } :=
  ⟨Same.mut S.s S.R0, S.p0, S.R0, S.C0, S.G0, S.rl, S.ok, S.ek, by rw [upd_ne (ne_of_o S.hp S.hR (by simp))]; exact S.hp, by rw [upd_ne S.dR]; exact S.hD, upd_same, by rw [upd_ne (ne_of_o S.hC S.hR (by simp))]; exact S.hC, by rw [upd_ne S.RG.symm]; exact S.hG, (S.rR.app (Rows.one ht)).tup (STup.mutL S.hR), S.rG.tup (STup.mutL S.hR), S.dR, S.dG, S.RG, S.D0⟩
theorem StAt.add_log (S : StAt K F H p a st) {t : Addr} {x : Int × Sw} (ht : H t = some (.tup (logV x))) : StAt K F (upd H a.G (.lst (a.gxs ++ [.ref t]))) p { a with gxs := a.gxs ++ [.ref t] } { st with log := st.log ++ [x] } :=
  ⟨Same.mut S.s S.G0, S.p0, S.R0, S.C0, S.G0, S.rl, S.ok, S.ek, by rw [upd_ne (ne_of_o S.hp S.hG (by simp))]; exact S.hp, by rw [upd_ne S.dG]; exact S.hD, by rw [upd_ne S.RG]; exact S.hR, by rw [upd_ne (ne_of_o S.hC S.hG (by simp))]; exact S.hC, upd_same, S.rR.tup (STup.mutL S.hG), (S.rG.app (Rows.one ht)).tup (STup.mutL S.hG), S.dR, S.dG, S.RG, S.D0⟩
theorem StAt.set_cnt (S : StAt K F H p a st) (c : Sw → Int) : StAt K F (upd H a.C (.dK (cntK c))) p a { st with cnt := c } :=
  ⟨Same.mut S.s S.C0, S.p0, S.R0, S.C0, S.G0, S.rl, S.ok, S.ek, by rw [upd_ne (ne_of_o S.hp S.hC (by simp))]; exact S.hp, by rw [upd_ne (ne_of_o S.hD S.hC (by simp))]; exact S.hD, by rw [upd_ne (ne_of_o S.hR S.hC (by simp))]; exact S.hR, upd_same, by rw [upd_ne (ne_of_o S.hG S.hC (by simp))]; exact S.hG, S.rR.tup (STup.mutD S.hC), S.rG.tup (STup.mutD S.hC), S.dR, S.dG, S.RG, S.D0⟩
end
end
end
local macro_rules | `(tactic| walk_at "fh") => `(tactic| first
  | exact StAt.hp (by assumption))
local macro_rules | `(tactic| walk_at "ns") => `(tactic| first
    | exact N_State_kept_rules (by assumption)
    | exact N_State_kept_is_logged (by assumption)
    | exact N_State_kept_kind (by assumption)
    | exact N_State_kept_begin (by assumption)
    | exact N_State_kept_is_heard (by assumption)
    | exact N_State_kept_is_other (by assumption)
    | exact N_State_kept_is_own (by assumption)
    | exact N_State_kept_down (by assumption)
    | exact N_State_kept_runs (by assumption)
    | exact N_State_kept_counts (by assumption)
    | exact N_State_kept_log (by assumption))
local macro_rules | `(tactic| walk_at "h0") => `(tactic| first
  | exact SqL.of (StAt.hR (by assumption))
  | exact SqL.of (StAt.hG (by assumption))
  | exact SqL.of (StAt.hD (by assumption))
  | exact StAt.hR (by assumption)
  | exact StAt.hG (by assumption)
  | exact StAt.rule (by assumption))
local macro_rules | `(tactic| walk_at "r1") => `(tactic| first
  | ((with_reducible refine' r_fldI ?e0 ?e1 ?e2 ?e3 ?_); (case e0 => exact StAt.hp (by assumption)); (case e1 => exact C_State (by assumption)); (case e2 => walk_at "ns"); (case e3 => rfl))
  | ((with_reducible refine' r_sfldI ?e0 ?e1 ?e2 ?e3 ?_); (case e0 => exact StAt.hp (by assumption)); (case e1 => exact C_State (by assumption)); (case e2 => walk_at "ns"); (case e3 => exact (by decide : 11 < 1000)))
  | ((with_reducible refine' r_methI ?e0 ?e3 ?_); (case e0 => exact StAt.hp (by assumption)); (case e3 => rfl)))

section
section
variable {P : Program} {w : World} {K : PySem.W.Frag} {mg : Str → Option Value} {base : Heap}
def spNote (K : PySem.W.Frag) : Sp := fun vs H Q _ => ∃ (p : Addr) (F : Hp) (st : MSt) (t : Int) (x : Sw), vs = [.ref p, .int t, .str x.str] ∧ SAt K F H p st ∧ st.log.length < sizeLine ∧ ∀ H', SAt K F H' p (st.note t x) → Q .non H'
theorem ok_State_note (T : Txt K mg) : C8.Met P w K mg base 1 (He.ga K "State") "note" (spNote K) [] := by
  refine metD (C_State T) (M_State_note T) (D_State_note T) sc_State_note (fun _ _ _ _ _ _ us hl => match us, hl with | [_, _, _], _ => rfl) (fun vs H Q E h => ?_) (fun cdv A outer s H vs Q E hr h => ?_)
  · obtain ⟨_, _, _, _, _, rfl, _⟩ := h
    rfl
  · have hu := hu_of hr
    refine ⟨_, (pss_cons (ps_daug hu (pe_fld (pv 0) rfl) (pv 2) pe_int in_add (fun _ _ _ => rfl))
      (pss_one (ps_if (pt_val (pe_fld (pv 0) rfl))
      (pss_one (ps_expr (pe_bm PySem.F.plainAttrs_list PySem.F.slot_list_append PySem.F.type_list_append mt_append (pe_fld (pv 0) rfl) (pa_cons (pe_tup (pa_cons (pv 1) (pa_cons (pv 2) pa_nil))) pa_nil))))
      pss_nil))), ?_⟩
    walk_at "cx"
    obtain ⟨p, F, st, t, x, rfl, ⟨a, S⟩, hl, q⟩ := h
    walk_at "rd"
    refine ⟨_, _, rfl, (by have := DGet.k (k := .inr x.str) S.hC; rw [cnt_get] at this; exact this), ?_⟩
    walk_at "rd"
    refine ⟨_, DPut.k (k := .inr x.str) S.hC (cnt_len _), ?_⟩
    rw [cnt_add]
    have S1 := S.set_cnt (addC x 1 st.cnt)
    generalize upd H a.C (.dK (cntK (addC x 1 st.cnt))) = H1 at S1 ⊢
    walk_at "rd"
    cases hlg : st.logged with
    | true =>
      refine r_ifT rfl ?_
      walk_at "rd"
      rename_i tt htt
      have S2 := S1.new (o := .tup (logV (t, x))) htt
      refine r_append S2.hG (by rw [S.rG.len]; exact hl) ?_
      have S3 := S2.add_log (x := (t, x)) upd_same
      walk_at "rd"
      refine q _ (?_ : SAt K F _ p (st.note t x))
      unfold MSt.note
      rw [if_pos hlg]
      exact S3.sat
    | false =>
      refine r_ifF rfl ?_
      walk_at "rd"
      refine q _ (?_ : SAt K F _ p (st.note t x))
      unfold MSt.note
      rw [if_neg (by rw [hlg]; exact Bool.false_ne_true)]
      exact S1.sat
theorem u_note {H : Hp} {Q : VK} {E : XK} {p : Addr} {F : Hp} {st : MSt} {t : Int} {x : Sw} (h : SAt K F H p st) (hl : st.log.length < sizeLine) (q : ∀ H', SAt K F H' p (st.note t x) → Q .non H') : spNote K [.ref p, .int t, .str x.str] H Q E := ⟨p, F, st, t, x, rfl, h, hl, q⟩
def spNo (K : PySem.W.Frag) : Sp := fun vs H Q _ => ∃ (p : Addr) (F : Hp) (st : MSt) (t : Int) (k : Kd), vs = [.ref p, .int t] ∧ SAt K F H p st ∧ st.kind = some k ∧ st.log.length < sizeLine ∧ ∀ H', SAt K F H' p (st.noteOther t k) → Q .non H'
theorem ok_State_note_other (T : Txt K mg) : C8.Met P w K mg base 2 (He.ga K "State") "note_other" (spNo K) [] := by
  refine metD (C_State T) (M_State_note_other T) (D_State_note_other T) sc_State_note_other (fun _ _ _ _ _ _ us hl => match us, hl with | [_, _], _ => rfl) (fun vs H Q E h => ?_) (fun cdv A outer s H vs Q E hr h => ?_)
  · obtain ⟨_, _, _, _, _, rfl, _⟩ := h
    rfl
  · have hu := hu_of hr
    refine ⟨_, (pss_cons (ps_fld (pv 0) pe_bl rfl)
      (pss_one (ps_expr (C8.pe_mt (ok_State_note T) hr (by decide) (pv 0) (pa_cons (pv 1) (pa_cons (pe_op oq_addZ pe_str (C8.pe_c (ok_other_of T) hr (by decide) rfl (pa_cons (pe_fld (pv 0) rfl) pa_nil))) pa_nil)))))), ?_⟩
    walk_at "cx"
    obtain ⟨p, F, st, t, k, rfl, ⟨a, S⟩, hk, hl, q⟩ := h
    have ek : a.vk = kv k := by rw [S.ek, hk]; rfl
    walk_at "rd"
    have S1 := S.set_other true
    generalize upd H p (.ins (He.ga K "State") a.dx (putF "kept_is_other" (.bl true) (a.fs st))) = H1 at S1 ⊢
    walk_at "rd"
    rw [ek]
    walk_at "rd"
    have e1 : (("remember " : Str).length + k.ot.str.length) ≤ sizeLine := by cases k <;> decide +kernel
    refine r_addZ e1 ?_
    walk_at "rd"
    have e2 : ("remember " : Str) ++ k.ot.str = (Sw.remember k.ot).str := by cases k <;> decide +kernel
    rw [e2]
    refine u_note S1.sat hl fun H2 hS => ?_
    walk_at "rd"
    exact q _ hS
theorem u_no {H : Hp} {Q : VK} {E : XK} {p : Addr} {F : Hp} {st : MSt} {t : Int} {k : Kd} (h : SAt K F H p st) (hk : st.kind = some k) (hl : st.log.length < sizeLine) (q : ∀ H', SAt K F H' p (st.noteOther t k) → Q .non H') : spNo K [.ref p, .int t] H Q E := ⟨p, F, st, t, k, rfl, h, hk, hl, q⟩
def spHo (K : PySem.W.Frag) : Sp := fun vs H Q _ => ∃ (p : Addr) (F : Hp) (st : MSt) (k : Kd), vs = [.ref p, kv k] ∧ SAt K F H p st ∧ Q (.bl (st.heldOther k)) H
theorem ok_State_is_held_other (T : Txt K mg) : C8.Met P w K mg base 4 (He.ga K "State") "is_held_other" (spHo K) [] := by
  refine metD (C_State T) (M_State_is_held_other T) (D_State_is_held_other T) sc_State_is_held_other (fun _ _ _ _ _ _ us hl => match us, hl with | [_, _], _ => rfl) (fun vs H Q E h => ?_) (fun cdv A outer s H vs Q E hr h => ?_)
  · obtain ⟨_, _, _, _, rfl, _⟩ := h
    rfl
  · have hu := hu_of hr
    refine ⟨_, (pss_one (ps_ret (pe_and (pe_cmpR op_eq (pe_ix ix_tup (pe_fld (pv 0) rfl) pe_int (fun _ _ => rfl)) pe_str (nomark _)) (pe_and (C8.pe_c (ok_can_hear T) hr (by decide) rfl (pa_cons (pe_fld (pv 0) rfl) (pa_cons (pv 1) pa_nil))) (pe_one (pe_cmpR op_in_seq (C8.pe_c (ok_other_of T) hr (by decide) rfl (pa_cons (pv 1) pa_nil)) (pe_fld (pv 0) rfl) (by rfl))))))), ?_⟩
    walk_at "cx"
    obtain ⟨p, F, st, k, rfl, ⟨a, S⟩, q⟩ := h
    have q2 : Q (.bl (decide (st.rules.rem = .held) && st.rules.canHear k && decide (k.ot ∈ st.down))) H := q
    walk_at "rd"
    cases e : st.rules.rem
    all_goals rw [e] at q2
    · walk_at "rd"
      exact q2
    · walk_at "rd"
      exact q2
    · walk_at "rd"
      cases e2 : st.rules.canHear k
      all_goals rw [e2] at q2
      · walk_at "rd"
        exact q2
      · walk_at "rd"
        refine r_inL (SqL.of S.hD) rfl kv_flat ?_
        walk_at "rd"
        rw [in_kv]
        exact q2
theorem u_ho {H : Hp} {Q : VK} {E : XK} {p : Addr} {F : Hp} {st : MSt} {k : Kd} (h : SAt K F H p st) (q : Q (.bl (st.heldOther k)) H) : spHo K [.ref p, kv k] H Q E := ⟨p, F, st, k, rfl, h, q⟩
end
end
section
section
variable {P : Program} {w : World} {K : PySem.W.Frag} {mg : Str → Option Value} {base : Heap}
theorem one_str {k : Kd} : (Wd.one k).str = k.str := by cases k <;> rfl
theorem r_andV2 {ta tb : TE} {σ : L2.St} {H : Hp} {Q : VK} {c b : Bool} (ha : ∀ R : VK, R (.bl c) H → ta σ H R) (hb : ∀ R : VK, R (.bl b) H → tb σ H R) (q : Q (.bl (c && b)) H) : tAndV ta tb σ H Q := by
  refine ha _ ⟨c, rfl, ?_⟩
  cases c with
  | true => exact hb _ q
  | false => exact q
theorem dec_int {i j : Int} : decide (V.int i = V.int j) = decide (i = j) := by
  by_cases h : i = j
  · rw [decide_eq_true h, decide_eq_true (congrArg V.int h)]
  · rw [decide_eq_false h, decide_eq_false fun e => h (V.int.inj e)]
def spStart (K : PySem.W.Frag) : Sp := fun vs H Q _ => ∃ (p : Addr) (F : Hp) (st : MSt) (t : Int) (k : Kd), vs = [.ref p, .int t, kv k] ∧ SAt K F H p st ∧ st.runs.length < sizeLine ∧ st.log.length + 1 < sizeLine ∧ ∀ H', SAt K F H' p (st.start t k) → Q .non H'
theorem ok_State_start (T : Txt K mg) : C8.Met P w K mg base 5 (He.ga K "State") "start" (spStart K) [] := by
  refine metD (C_State T) (M_State_start T) (D_State_start T) sc_State_start (fun _ _ _ _ _ _ us hl => match us, hl with | [_, _, _], _ => rfl) (fun vs H Q E h => ?_) (fun cdv A outer s H vs Q E hr h => ?_)
  · obtain ⟨_, _, _, _, _, rfl, _⟩ := h
    rfl
  · have hu := hu_of hr
    refine ⟨_, (pss_cons (ps_asg (pe_tup (pa_cons (pv 2) (pa_cons (pv 1) pa_nil))) (pg_tup (n := 2) rfl (pgs_cons (pg_fld (pv 0)) (pgs_cons (pg_fld (pv 0)) pgs_nil))))
      (pss_cons (ps_asg (pe_tup (pa_cons pe_bl (pa_cons pe_bl pa_nil))) (pg_tup (n := 2) rfl (pgs_cons (pg_fld (pv 0)) (pgs_cons (pg_fld (pv 0)) pgs_nil))))
      (pss_cons (ps_fld (pv 0) (pe_and (pe_cmpR op_eq (pe_ix ix_tup (pe_fld (pv 0) rfl) pe_int (fun _ _ => rfl)) pe_int (nomark _)) (pe_one (C8.pe_c (ok_can_hear T) hr (by decide) rfl (pa_cons (pe_fld (pv 0) rfl) (pa_cons (pv 2) pa_nil))))) rfl)
      (pss_cons (ps_expr (pe_bm PySem.F.plainAttrs_list PySem.F.slot_list_append PySem.F.type_list_append mt_append (pe_fld (pv 0) rfl) (pa_cons (pe_tup (pa_cons (pv 1) (pa_cons (pv 2) (pa_cons pe_int pa_nil)))) pa_nil)))
      (pss_cons (ps_expr (C8.pe_mt (ok_State_note T) hr (by decide) (pv 0) (pa_cons (pv 1) (pa_cons (pe_op oq_addZ pe_str (pv 2)) pa_nil))))
      (pss_one (ps_if (PW.pt (pw_and (pt_val (pe_fld (pv 0) rfl)) (pw_and1 (pt_val (C8.pe_mt (ok_State_is_held_other T) hr (by decide) (pv 0) (pa_cons (pv 2) pa_nil))))))
      (pss_one (ps_expr (C8.pe_mt (ok_State_note_other T) hr (by decide) (pv 0) (pa_cons (pv 1) pa_nil))))
      pss_nil))))))), ?_⟩
    walk_at "cx"
    obtain ⟨p, F, st, t, k, rfl, ⟨a, S⟩, hl1, hl2, q⟩ := h
    walk_at "rd"
    rename_i t1 ht1
    have S0 := S.new (o := .tup [kv k, .int t]) ht1
    walk_at "rd"
    have S1 := S0.set_some k
    generalize upd _ p (.ins (He.ga K "State") _ (putF "kept_kind" _ _)) = H1 at *
    try dsimp only at S1
    walk_at "rd"
    have S2 := S1.set_beg t
    generalize upd _ p (.ins (He.ga K "State") _ (putF "kept_begin" _ _)) = H2 at *
    try dsimp only at S2
    walk_at "rd"
    rename_i t2 ht2
    have S3 := S2.new (o := .tup [.bl false, .bl false]) ht2
    walk_at "rd"
    have S4 := S3.set_other false
    generalize upd _ p (.ins (He.ga K "State") _ (putF "kept_is_other" _ _)) = H4 at *
    try dsimp only at S4
    walk_at "r1"
    have S5 := S4.set_own false
    generalize upd _ p (.ins (He.ga K "State") _ (putF "kept_is_own" _ _)) = H5 at *
    try dsimp only at S5
    refine r_gnil ?_
    refine r_nx ?_
    refine r_seq ?_
    refine r_sfld ?_
    refine r_andV2 (c := decide (st.rules.d = 0)) (b := st.rules.canHear k) (fun R q => ?_) (fun R q => ?_) ?_
    · walk_at "rd"
      rw [dec_int]
      exact q
    · walk_at "rd"
      exact q
    walk_at "rd"
    have S6 := S5.set_heard (decide (st.rules.d = 0) && st.rules.canHear k)
    generalize upd _ p (.ins (He.ga K "State") _ (putF "kept_is_heard" _ _)) = H6 at *
    try dsimp only at S6
    walk_at "rd"
    rename_i t3 ht3
    have S7 := S6.new (o := .tup [.int t, kv k, .int 1]) ht3
    refine r_append S7.hR (by rw [S6.rR.len]; exact hl1) ?_
    have S8 := S7.add_run (x := (t, Wd.one k, 1)) (t := t3) (by rw [upd_same]; show _ = some (HO.tup [_, V.str (Wd.one k).str, _]); rw [one_str])
    try dsimp only at S8
    walk_at "rd"
    have e1 : (("begin " : Str).length + k.str.length) ≤ sizeLine := by cases k <;> decide +kernel
    refine r_addZ e1 ?_
    walk_at "rd"
    have e2 : ("begin " : Str) ++ k.str = (Sw.begin k).str := by cases k <;> decide +kernel
    rw [e2]
    refine u_note S8.sat (show st.log.length < sizeLine by omega) fun H9 ⟨a9, S9⟩ => ?_
    walk_at "rd"
    have hS : ∀ st1, st1 = MSt.note { st with kind := some k, beg := t, other := false, own := false, heard := decide (st.rules.d = 0) && st.rules.canHear k, runs := st.runs ++ [(t, Wd.one k, 1)] } t (.begin k) → st.start t k = if (decide (st.rules.d = 0) && st.rules.canHear k) && st.heldOther k then st1.noteOther t k else st1 := fun st1 e => by rw [e]; rfl
    have hs2 := hS _ rfl
    rw [hs2] at q
    clear hS hs2 S S0 S1 S2 S3 S4 S5 S6 S7 S8
    cases hh : (decide (st.rules.d = 0) && st.rules.canHear k)
    · refine r_ifF rfl ?_
      walk_at "rd"
      rw [hh] at q S9
      exact q _ S9.sat
    · refine r_ifT rfl ?_
      walk_at "rd"
      refine u_ho S9.sat ?_
      walk_at "rd"
      rw [hh] at q S9
      have e3 : MSt.heldOther (MSt.note { st with kind := some k, beg := t, other := false, own := false, heard := true, runs := st.runs ++ [(t, Wd.one k, 1)] } t (.begin k)) k = st.heldOther k := rfl
      cases h2 : st.heldOther k
      · refine r_ifF (by rw [← h2]; exact e3) ?_
        walk_at "rd"
        rw [h2] at q
        exact q _ S9.sat
      · refine r_ifT (by rw [← h2]; exact e3) ?_
        walk_at "rd"
        refine u_no S9.sat (k := k) rfl (Nat.lt_of_le_of_lt (note_len _ _ _) hl2) fun H10 h10 => ?_
        walk_at "rd"
        rw [h2] at q
        exact q _ h10
theorem u_start {H : Hp} {Q : VK} {E : XK} {p : Addr} {F : Hp} {st : MSt} {t : Int} {k : Kd} (h : SAt K F H p st) (hl : st.runs.length < sizeLine) (hl2 : st.log.length + 1 < sizeLine) (q : ∀ H', SAt K F H' p (st.start t k) → Q .non H') : spStart K [.ref p, .int t, kv k] H Q E := ⟨p, F, st, t, k, rfl, h, hl, hl2, q⟩
end
end
section
section
variable {P : Program} {w : World} {K : PySem.W.Frag} {mg : Str → Option Value} {base : Heap}
theorem pe_fldK {X : Cx} {K : PySem.W.Frag} {e : Expr} {f : Str} {pos : Pos} {ta : TE} (hK : X.K = K) (he : PE X e ta) (hb : attributeBase e f X.env (eval e X.env) = eval e X.env) : PE X (.Attribute e f pos) (tFld K ta f) := by
  subst hK
  exact pe_fld he hb
def spHear (K : PySem.W.Frag) : Sp := fun vs H Q _ => ∃ (p : Addr) (F : Hp) (st : MSt) (t : Int) (k : Kd), vs = [.ref p, .int t] ∧ SAt K F H p st ∧ st.kind = some k ∧ st.log.length + 1 < sizeLine ∧ ∀ H', SAt K F H' p (st.hear t k) → Q .non H'
theorem ok_State_hear (T : Txt K mg) : C8.Met P w K mg base 5 (He.ga K "State") "hear" (spHear K) [] := by
  refine metD (C_State T) (M_State_hear T) (D_State_hear T) sc_State_hear (fun _ _ _ _ _ _ us hl => match us, hl with | [_, _], _ => rfl) (fun vs H Q E h => ?_) (fun cdv A outer s H vs Q E hr h => ?_)
  · obtain ⟨_, _, _, _, _, rfl, _⟩ := h
    rfl
  · have hu := hu_of hr
    refine ⟨_, (pss_cons (ps_fld (pv 0) pe_bl rfl)
      (pss_cons (ps_expr (C8.pe_mt (ok_State_note T) hr (by decide) (pv 0) (pa_cons (pv 1) (pa_cons pe_str pa_nil))))
      (pss_one (ps_if (pt_val (C8.pe_mt (ok_State_is_held_other T) hr (by decide) (pv 0) (pa_cons (pe_fld (pv 0) rfl) pa_nil)))
      (pss_one (ps_expr (C8.pe_mt (ok_State_note_other T) hr (by decide) (pv 0) (pa_cons (pv 1) pa_nil))))
      pss_nil)))), ?_⟩
    walk_at "cx"
    obtain ⟨p, F, st, t, k, rfl, ⟨a, S⟩, hk, hl, q⟩ := h
    have ek : a.vk = kv k := by rw [S.ek, hk]; rfl
    walk_at "rd"
    have S1 := S.set_heard true
    generalize upd _ p (.ins (He.ga K "State") _ (putF "kept_is_heard" _ _)) = H1 at *
    try dsimp only at S1
    walk_at "rd"
    refine u_note (x := .hear) S1.sat (show st.log.length < sizeLine by omega) fun H2 ⟨a2, S2⟩ => ?_
    have ek2 : a2.vk = kv k := by
      rw [S2.ek]
      show okv st.kind = _
      rw [hk]
      rfl
    walk_at "rd"
    rw [ek2]
    refine u_ho S2.sat ?_
    walk_at "rd"
    have e3 : MSt.heldOther (MSt.note { st with heard := true } t .hear) k = st.heldOther k := rfl
    have hq : st.hear t k = if st.heldOther k then (MSt.note { st with heard := true } t .hear).noteOther t k else MSt.note { st with heard := true } t .hear := rfl
    rw [hq] at q
    cases h2 : st.heldOther k
    · refine r_ifF (by rw [← h2]; exact e3) ?_
      walk_at "rd"
      rw [h2] at q
      exact q _ S2.sat
    · refine r_ifT (by rw [← h2]; exact e3) ?_
      walk_at "rd"
      refine u_no S2.sat (k := k) hk (Nat.lt_of_le_of_lt (note_len _ _ _) hl) fun H3 h3 => ?_
      walk_at "rd"
      rw [h2] at q
      exact q _ h3
theorem u_hear {H : Hp} {Q : VK} {E : XK} {p : Addr} {F : Hp} {st : MSt} {t : Int} {k : Kd} (h : SAt K F H p st) (hk : st.kind = some k) (hl : st.log.length + 1 < sizeLine) (q : ∀ H', SAt K F H' p (st.hear t k) → Q .non H') : spHear K [.ref p, .int t] H Q E := ⟨p, F, st, t, k, rfl, h, hk, hl, q⟩
def spDec (K : PySem.W.Frag) : Sp := fun vs H Q _ => ∃ (p : Addr) (F : Hp) (st : MSt) (t : Int) (k : Kd), vs = [.ref p, .int t] ∧ SAt K F H p st ∧ st.kind = some k ∧ st.down.length ≤ 2 ∧ st.runs.length < sizeLine ∧ st.log.length + 1 < sizeLine ∧ ∀ H', SAt K F H' p (st.decide t k) → Q .non H'
theorem ok_State_decide (T : Txt K mg) : C8.Met P w K mg base 6 (He.ga K "State") "decide" (spDec K) [] := by
  refine metD (C_State T) (M_State_decide T) (D_State_decide T) sc_State_decide (fun _ _ _ _ _ _ us hl => match us, hl with | [_, _], _ => rfl) (fun vs H Q E h => ?_) (fun cdv A outer s H vs Q E hr h => ?_)
  · obtain ⟨_, _, _, _, _, rfl, _⟩ := h
    rfl
  · have hu := hu_of hr
    refine ⟨_, (pss_cons (ps_set (i := 2) sc_State_decide.nd rfl (Or.inl rfl) (C8.pe_c (ok_outcome T) hr (by decide) rfl (pa_cons (pe_fld (pv 0) rfl) (pa_cons (pe_fld (pv 0) rfl) (pa_cons (pe_fld (pv 0) rfl) (pa_cons (pe_fld (pv 0) rfl) (pa_cons (pe_fld (pv 0) rfl) pa_nil)))))))
      (pss_one (ps_if (pt_cmpR oq_isN (pv 2) pe_non (nomark _))
      (pss_cons (ps_asg (pe_tup (pa_cons pe_non (pa_cons pe_bl (pa_cons pe_bl pa_nil)))) (pg_tup (n := 3) rfl (pgs_cons (pg_fld (pv 0)) (pgs_cons (pg_fld (pv 0)) (pgs_cons (pg_fld (pv 0)) pgs_nil)))))
      (pss_one (ps_expr (C8.pe_mt (ok_State_note T) hr (by decide) (pv 0) (pa_cons (pv 1) (pa_cons pe_str pa_nil))))))
      (pss_one (ps_expr (C8.pe_mt (ok_State_start T) hr (by decide) (pv 0) (pa_cons (pv 1) (pa_cons (pv 2) pa_nil)))))))), ?_⟩
    walk_at "cx"
    obtain ⟨p, F, st, t, k, rfl, ⟨a, S⟩, hk, hd, hl1, hl2, q⟩ := h
    have ek : a.vk = kv k := by rw [S.ek, hk]; rfl
    walk_at "rd"
    rw [ek]
    refine u_oc S.rule (SqL.of S.hD) hd fun H1 s1 => ?_
    have S1 := S.ex s1
    walk_at "rd"
    unfold MSt.decide at q
    cases ho : outcome st.rules k st.down st.other st.own with
    | none =>
      rw [ho] at q
      refine r_ifT rfl ?_
      walk_at "rd"
      rename_i t1 ht1
      have S2 := S1.new (o := .tup [.non, .bl false, .bl false]) ht1
      walk_at "rd"
      have S3 := S2.set_none ()
      generalize upd _ p (.ins (He.ga K "State") _ (putF "kept_kind" _ _)) = H3 at *
      try dsimp only at S3
      walk_at "r1"
      have S4 := S3.set_other false
      generalize upd _ p (.ins (He.ga K "State") _ (putF "kept_is_other" _ _)) = H4 at *
      try dsimp only at S4
      walk_at "rd"
      have S5 := S4.set_own false
      generalize upd _ p (.ins (He.ga K "State") _ (putF "kept_is_own" _ _)) = H5 at *
      try dsimp only at S5
      walk_at "rd"
      refine u_note (x := .idle) S5.sat (show st.log.length < sizeLine by omega) fun H6 h6 => ?_
      walk_at "rd"
      exact q _ h6
    | some k' =>
      rw [ho] at q
      refine r_ifF rfl ?_
      walk_at "rd"
      refine u_start (k := k') S1.sat hl1 hl2 fun H2 h2 => ?_
      walk_at "rd"
      exact q _ h2
theorem u_dec {H : Hp} {Q : VK} {E : XK} {p : Addr} {F : Hp} {st : MSt} {t : Int} {k : Kd} (h : SAt K F H p st) (hk : st.kind = some k) (hd : st.down.length ≤ 2) (hl1 : st.runs.length < sizeLine) (hl : st.log.length + 1 < sizeLine) (q : ∀ H', SAt K F H' p (st.decide t k) → Q .non H') : spDec K [.ref p, .int t] H Q E := ⟨p, F, st, t, k, rfl, h, hk, hd, hl1, hl, q⟩
def spFw (K : PySem.W.Frag) : Sp := fun vs H Q _ => ∃ (p : Addr) (F : Hp) (st : MSt) (k : Kd), vs = [.ref p, kv k] ∧ SAt K F H p st ∧ st.down.length ≤ 2 ∧ ∀ H', SAt K F H' p st → Q (okv (st.following k)) H'
theorem ok_State_following (T : Txt K mg) : C8.Met P w K mg base 5 (He.ga K "State") "following" (spFw K) [] := by
  refine metD (C_State T) (M_State_following T) (D_State_following T) sc_State_following (fun _ _ _ _ _ _ us hl => match us, hl with | [_, _], _ => rfl) (fun vs H Q E h => ?_) (fun cdv A outer s H vs Q E hr h => ?_)
  · obtain ⟨_, _, _, _, rfl, _⟩ := h
    rfl
  · have hu := hu_of hr
    refine ⟨_, (pss_one (ps_ret (C8.pe_c (ok_outcome T) hr (by decide) rfl (pa_cons (pe_fld (pv 0) rfl) (pa_cons (pv 1) (pa_cons (pe_fld (pv 0) rfl) (pa_cons (C8.pe_mt (ok_State_is_held_other T) hr (by decide) (pv 0) (pa_cons (pv 1) pa_nil)) (pa_cons pe_bl pa_nil)))))))), ?_⟩
    walk_at "cx"
    obtain ⟨p, F, st, k, rfl, ⟨a, S⟩, hd, q⟩ := h
    walk_at "rd"
    refine u_ho S.sat ?_
    walk_at "rd"
    refine u_oc S.rule (SqL.of S.hD) hd fun H1 s1 => ?_
    walk_at "rd"
    exact q _ (S.ex s1).sat
theorem u_fw {H : Hp} {Q : VK} {E : XK} {p : Addr} {F : Hp} {st : MSt} {k : Kd} (h : SAt K F H p st) (hd : st.down.length ≤ 2) (q : ∀ H', SAt K F H' p st → Q (okv (st.following k)) H') : spFw K [.ref p, kv k] H Q E := ⟨p, F, st, k, rfl, h, hd, q⟩
end
end
section
section
variable {P : Program} {w : World} {K : PySem.W.Frag} {mg : Str → Option Value} {base : Heap}
theorem r_fldaug {ta tv : TE} {rd : V → V → Hp → VK → Prop} {f : Str} {D : Ends} {σ : L2.St} {H : Hp} (h : ta σ H fun x H1 => ∃ a C dx fs v, x = .ref a ∧ H1 a = some (.ins C dx fs) ∧ Cls K C ∧ NoAttr K C f ∧ fs.lookup f = some v ∧
    tv σ H1 fun y H2 => rd v y H2 fun z H3 => ∃ dx fs, H3 a = some (.ins C dx fs) ∧ fs.length < 1000 ∧ D.nx σ (upd H3 a (.ins C dx (putF f z fs)))) : sFldAug K ta tv rd f D σ H := h
theorem r_dcnt {F H : Hp} {p : Addr} {a : StA} {st : MSt} {σ : L2.St} {Q : Hp → Prop} {w : Sw} {n : Int} {i : Nat} (S : StAt K F H p a st) (e : σ[i]? = some (some (.int n))) (q : ∀ H', StAt K F H' p a { st with cnt := addC w n st.cnt } → Q H') :
    ∃ a' v, V.ref a.C = .ref a' ∧ DGet H a' (.str w.str) (some v) ∧ tVar i σ H fun y2 H3 => L2.rAdd v y2 H3 fun z H4 => ∃ H5, DPut H4 a' (.str w.str) z H5 ∧ Q H5 := by
  refine ⟨_, _, rfl, (by have := DGet.k (k := .inr w.str) S.hC; rw [cnt_get] at this; exact this), ?_⟩
  refine r_var e ?_
  refine r_rAdd ?_
  refine ⟨_, DPut.k (k := .inr w.str) S.hC (cnt_len _), ?_⟩
  rw [cnt_add]
  exact q _ (S.set_cnt (addC w n st.cnt))
theorem sk_rem {F H : Hp} {p : Addr} {a : StA} {st : MSt} (T : Txt K mg) {k' : Kd} {t : Int} {v1 v4 : Option V} {nx : L2.St → Hp → Prop} {rt : VK} {bk ct : L2.St → Hp → Prop} (S : StAt K F H p a st)
    (hnx : ∀ H', StAt K F H' p a { st with cnt := if st.heldOther k' then addC (.remember k'.ot) t st.cnt else st.cnt } → nx [some (.ref p), v1, some (.int t), some (kv k'), v4] H') :
    tIfS (tB (tMeth (He.ga K "State") "is_held_other" (spHo K) [] C8.E0 (tVar 0) (tCons (tVar 3) tNil))) (sDAug (tFld K (tVar 0) "kept_counts") (tOp rAddZ (tC (V.str "remember ")) (tCall spOt [] C8.E0 (tCons (tVar 3) tNil))) (tVar 2) L2.rAdd) tNext
      { nx := nx, rt := rt, bk := bk, ct := ct } [some (.ref p), v1, some (.int t), some (kv k'), v4] H := by
  walk_at "rd"
  refine u_ho S.sat ?_
  walk_at "rd"
  cases h2 : st.heldOther k'
  · refine r_ifF rfl ?_
    walk_at "rd"
    rw [h2] at hnx
    exact hnx _ S
  · refine r_ifT rfl ?_
    rw [h2] at hnx
    walk_at "rd"
    have e1 : (("remember " : Str).length + k'.ot.str.length) ≤ sizeLine := by cases k' <;> decide +kernel
    refine r_addZ e1 ?_
    walk_at "rd"
    have e2 : ("remember " : Str) ++ k'.ot.str = (Sw.remember k'.ot).str := by cases k' <;> decide +kernel
    rw [e2]
    refine r_dcnt S (w := .remember k'.ot) rfl fun H5 S5 => ?_
    exact hnx _ S5
theorem mulw2 {r : Rl} {x : Wd} {t : Int} (ok : r.Ok) (h0 : 0 ≤ t) (h : t < 2 ^ 400) : CMulW (x.ks.map r.per).sum t := by
  have h1 := Wd.per_sz ok x
  exact wide_mul (a := 302) (b := 400) (abs_of (show 0 ≤ x.per r by omega) h1.2) (abs_of h0 h) (by decide) (by decide) (by decide)
def spSkip (K : PySem.W.Frag) : Sp := fun vs H Q _ => ∃ (p : Addr) (F : Hp) (st : MSt) (x : Wd) (t : Int) (k : Kd), vs = [.ref p, .str x.str, .int t] ∧ SAt K F H p st ∧ st.kind = some k ∧ 0 ≤ t ∧ t < 2 ^ 400 ∧ st.runs.length < sizeLine ∧ ∀ H', SAt K F H' p (st.skip x t k) → Q .non H'
theorem ok_State_skip (T : Txt K mg) : C8.Met P w K mg base 5 (He.ga K "State") "skip" (spSkip K) [] := by
  refine metD (C_State T) (M_State_skip T) (D_State_skip T) sc_State_skip (fun _ _ _ _ _ _ us hl => match us, hl with | [_, _, _], _ => rfl) (fun vs H Q E h => ?_) (fun cdv A outer s H vs Q E hr h => ?_)
  · obtain ⟨_, _, _, _, _, _, rfl, _⟩ := h
    rfl
  · have hu := hu_of hr
    refine ⟨_, (pss_cons (ps_set (i := 4) sc_State_skip.nd rfl (Or.inl rfl) (pe_callB (cr_sum rfl) (by rfl) (T_sum T) (by decide +kernel) (pa_cons (pe_lc (own := [("kind", 3)]) rfl sc_State_skip.nd (pi_str (pv 1)) (blkOk_by (own := [("kind", 3)]) (N := ["self", "word", "times", "kind", "period"]) (sc := defScope s_State_skip) (by decide +kernel)) (fun _ _ _ _ _ => (pg_name (i := 3) sc_State_skip.nd rfl (Or.inl rfl))) (fun _ _ _ _ _ => pts_nil) (fun _ _ _ _ _ => (C8.pe_c (ok_period_of T) hr (by decide) rfl (pa_cons (pe_fldK (K := K) rfl (pv 0) rfl) (pa_cons (pv 3) pa_nil))))) pa_nil)))
      (pss_cons (ps_expr (pe_bm PySem.F.plainAttrs_list PySem.F.slot_list_append PySem.F.type_list_append mt_append (pe_fld (pv 0) rfl) (pa_cons (pe_tup (pa_cons (pe_op op_add (pe_fld (pv 0) rfl) (C8.pe_c (ok_period_of T) hr (by decide) rfl (pa_cons (pe_fld (pv 0) rfl) (pa_cons (pe_fld (pv 0) rfl) pa_nil)))) (pa_cons (pv 1) (pa_cons (pv 2) pa_nil)))) pa_nil)))
      (pss_cons (ps_for PassesOwn.never rfl (pi_str (pv 1)) (pg_name (i := 3) sc_State_skip.nd rfl (Or.inl rfl))
      (pss_cons (ps_daug hu (pe_fld (pv 0) rfl) (pe_op oq_addZ pe_str (pv 3)) (pv 2) in_add (fun _ _ _ => rfl))
      (pss_cons (ps_if (PW.pt (pw_and (pt_val (C8.pe_c (ok_can_hear T) hr (by decide) rfl (pa_cons (pe_fld (pv 0) rfl) (pa_cons (pv 3) pa_nil)))) (pw_and1 (pt_cmpR op_gt (pe_ix ix_tup (pe_fld (pv 0) rfl) pe_int (fun _ _ => rfl)) pe_int (nomark _)))))
      (pss_one (ps_daug hu (pe_fld (pv 0) rfl) pe_str (pv 2) in_add (fun _ _ _ => rfl)))
      pss_nil)
      (pss_one (ps_if (pt_val (C8.pe_mt (ok_State_is_held_other T) hr (by decide) (pv 0) (pa_cons (pv 3) pa_nil)))
      (pss_one (ps_daug hu (pe_fld (pv 0) rfl) (pe_op oq_addZ pe_str (C8.pe_c (ok_other_of T) hr (by decide) rfl (pa_cons (pv 3) pa_nil))) (pv 2) in_add (fun _ _ _ => rfl)))
      pss_nil)))))
      (pss_one (ps_fldaug (pv 0) (pe_op op_mulW (pv 4) (pv 2)) in_add))))), ?_⟩
    walk_at "cx"
    obtain ⟨p, F, st, x, t, k, rfl, ⟨a, S⟩, hk, ht0, ht, hl, q⟩ := h
    have ek : a.vk = kv k := by rw [S.ek, hk]; rfl
    walk_at "rd"
    rename_i D hD
    refine lc_it walk_str (fun i H' => Same H H' ∧ H' D = some (.lst ((List.range i).map fun i => V.int (st.rules.per ((x.ks[i]?).getD .s))))) (lc_0 hD) (fun _ _ _ _ => trivial) (fun i y Ha Hb hi hs hy => ?_) (fun Ha hs => ?_)
    · obtain ⟨s1, hd⟩ := hs
      obtain ⟨rfl, c, hc, rfl⟩ := hy
      obtain ⟨k', hk', ek'⟩ := wd_at hc
      rw [ek']
      have hi2 : i < sizeLine := Nat.lt_of_lt_of_le hi (by rw [wd_size]; exact wd_len x)
      have S1 := S.ex s1
      walk_at "rd"
      exact lc_end hD s1 hd hi2 (Same.refl _) (by rw [hk']; rfl)
    · obtain ⟨s1, hd⟩ := hs
      have S1 := S.ex s1
      rw [wd_size, range_map (f := fun k => V.int (st.rules.per k))] at hd
      walk_at "rd"
      refine r_sum (ns := x.ks.map st.rules.per) (SqL.of (by rw [hd, List.map_map]; rfl)) ?_
      walk_at "rd"
      rw [ek]
      refine u_per S1.rule ?_
      walk_at "rd"
      rename_i t1 ht1
      have S2 := S1.new (o := .tup (runV (st.beg + st.rules.per k, x, t))) ht1
      refine r_append S2.hR (by rw [S.rR.len]; exact hl) ?_
      have S3 := S2.add_run (x := (st.beg + st.rules.per k, x, t)) upd_same
      generalize upd _ a.R _ = H3 at S3 ⊢
      try dsimp only at S3
      clear S1 S2 s1 hd
      walk_at "rd"
      refine for_it walk_str (fun i σ Hb => ∃ v3 a', σ = [some (.ref p), some (.str x.str), some (.int t), v3, some (.int (List.map st.rules.per x.ks).sum)] ∧ StAt K F Hb p a' { st with runs := st.runs ++ [(st.beg + st.rules.per k, x, t)], cnt := (x.ks.take i).foldl (skipC st t) st.cnt }) ⟨_, _, rfl, S3⟩ (fun _ _ _ _ _ => trivial) ?_ ?_
      · rintro i y σ Ha Hb hi ⟨v3, a', rfl, S4⟩ ⟨rfl, c, hc, rfl⟩
        obtain ⟨k', hk', ek'⟩ := wd_at hc
        rw [ek']
        have e4 : (x.ks.take (i + 1)).foldl (skipC st t) st.cnt = skipC st t ((x.ks.take i).foldl (skipC st t) st.cnt) k' := by
          rw [List.take_succ, hk', List.foldl_append]
          rfl
        rw [e4]
        generalize (x.ks.take i).foldl (skipC st t) st.cnt = cc at S4 ⊢
        walk_at "rd"
        have e1 : (("begin " : Str).length + k'.str.length) ≤ sizeLine := by cases k' <;> decide +kernel
        refine r_addZ e1 ?_
        walk_at "rd"
        have e2 : ("begin " : Str) ++ k'.str = (Sw.begin k').str := by cases k' <;> decide +kernel
        rw [e2]
        refine r_dcnt S4 (w := .begin k') rfl fun H5 S5 => ?_
        try dsimp only at S5
        walk_at "rd"
        have hsk : skipC st t cc k' = (if st.heldOther k' then addC (.remember k'.ot) t (if st.rules.canHear k' && decide (0 < st.rules.d) then addC .hear t (addC (.begin k') t cc) else addC (.begin k') t cc) else (if st.rules.canHear k' && decide (0 < st.rules.d) then addC .hear t (addC (.begin k') t cc) else addC (.begin k') t cc)) := rfl
        rw [hsk]
        clear hsk
        cases h1 : st.rules.canHear k'
        · refine r_ifF rfl ?_
          refine r_ifF rfl ?_
          refine sk_rem T S5 fun H7 S7 => ?_
          exact ⟨_, _, rfl, S7⟩
        · refine r_ifT rfl ?_
          walk_at "rd"
          cases h2 : decide (0 < st.rules.d)
          · refine r_ifF rfl ?_
            refine sk_rem T S5 fun H7 S7 => ?_
            exact ⟨_, _, rfl, S7⟩
          · refine r_ifT rfl ?_
            walk_at "rd"
            refine r_dcnt S5 (w := .hear) rfl fun H6 S6 => ?_
            try dsimp only at S6
            refine sk_rem T S6 fun H7 S7 => ?_
            exact ⟨_, _, rfl, S7⟩
      · rintro σ Ha ⟨v3, a', rfl, S4⟩
        rw [wd_size, List.take_length] at S4
        refine r_nx ?_
        refine r_fldaug ?_
        walk_at "rd"
        refine ⟨_, _, _, _, _, rfl, S4.hp, C_State T, N_State_kept_begin T, rfl, ?_⟩
        walk_at "rd"
        refine r_I (mulw2 S.ok ht0 ht) ?_
        refine r_rAdd ?_
        refine ⟨_, _, S4.hp, (by decide : 11 < 1000), ?_⟩
        walk_at "rd"
        have S5 := S4.set_beg (st.beg + (List.map st.rules.per x.ks).sum * t)
        exact q _ ⟨_, S5⟩
theorem u_skip {H : Hp} {Q : VK} {E : XK} {p : Addr} {F : Hp} {st : MSt} {x : Wd} {t : Int} {k : Kd} (h : SAt K F H p st) (hk : st.kind = some k) (h0 : 0 ≤ t) (ht : t < 2 ^ 400) (hl1 : st.runs.length < sizeLine) (q : ∀ H', SAt K F H' p (st.skip x t k) → Q .non H') : spSkip K [.ref p, .str x.str, .int t] H Q E := ⟨p, F, st, x, t, k, rfl, h, hk, h0, ht, hl1, q⟩
end
end
section
section
variable {P : Program} {w : World} {K : PySem.W.Frag} {mg : Str → Option Value} {base : Heap}
def spJump (K : PySem.W.Frag) : Sp := fun vs H Q _ => ∃ (p : Addr) (F : Hp) (st : MSt) (t : Int) (k : Kd), vs = [.ref p, .int t] ∧ SAt K F H p st ∧ st.kind = some k ∧ st.down.length ≤ 2 ∧ t - st.beg < 2 ^ 400 ∧ st.runs.length < sizeLine ∧ ∀ H', SAt K F H' p (st.jump t k) → Q .non H'
theorem u_fwE {H : Hp} {Q : VK} {E : XK} {p : Addr} {F : Hp} {st : MSt} {k : Kd} {v : V} (h : SAt K F H p st) (hd : st.down.length ≤ 2) (e : okv (st.following k) = v) (q : ∀ H' a, StAt K F H' p a st → Q v H') : spFw K [.ref p, kv k] H Q E := ⟨p, F, st, k, rfl, h, hd, fun H' ⟨a, S⟩ => by rw [e]; exact q _ _ S⟩
theorem jmp_tail {F H : Hp} {p ar : Addr} {a : StA} {st : MSt} (T : Txt K mg) {k : Kd} {t : Int} {x : Wd} {z : Str} {Q : VK} {σ2 σ4 σ6 σ7 : Option V} (S : StAt K F H p a st) (hz : z = x.str) (hk : st.kind = some k) (hw : st.word k = some x) (rl : SqT K H ar st.rules.vs) (ht : t - st.beg < 2 ^ 400) (hl : st.runs.length < sizeLine) (q : ∀ H', SAt K F H' p (st.jump t k) → Q .non H') :
    if (!st.logged) = true then
      tSeq (tAsg (tOp (rI CDivW fun i j => V.int (i / j)) (tOp (rI0 fun i j => V.int (i - j)) (tVar 1) (tFld K (tVar 0) "kept_begin")) (tCB (rSum K) (tCons (tLc (iStr (tVar 5)) (gName 7) tYes (tCall (spPer K) [] C8.E0 (tCons (tVar 3) (tCons (tVar 7) tNil))) [7]) tNil))) (gName 6))
        (tIfS (tTest (tOp (rI0 fun i j => V.bl (decide (j < i))) (tVar 6) (tC (V.int 0)))) (tDrop (tMeth (He.ga K "State") "skip" (spSkip K) [] C8.E0 (tVar 0) (tCons (tVar 5) (tCons (tVar 6) tNil)))) tNext)
        { nx := fun _ H' => Q V.non H', rt := Q } [some (.ref p), some (.int t), σ2, some (.ref ar), σ4, some (.str z), σ6, σ7] H
    else tNext { nx := fun _ H' => Q V.non H', rt := Q } [some (.ref p), some (.int t), σ2, some (.ref ar), σ4, some (.str z), σ6, σ7] H := by
  subst hz
  have hj : st.jump t k = if st.logged then st else if 0 < (t - st.beg) / x.per st.rules then st.skip x ((t - st.beg) / x.per st.rules) k else st := by
    unfold MSt.jump
    rw [hw]
  rw [hj] at q
  have hper := Wd.per_sz S.ok x
  cases hlg : st.logged
  · rw [hlg] at q
    refine r_ifT rfl ?_
    walk_at "rd"
    rename_i D hD
    refine lc_it walk_str (fun i H' => Same H H' ∧ H' D = some (.lst ((List.range i).map fun i => V.int (st.rules.per ((x.ks[i]?).getD .s))))) (lc_0 hD) (fun _ _ _ _ => trivial) (fun i y Ha Hb hi hs hy => ?_) (fun Ha hs => ?_)
    · obtain ⟨s1, hd⟩ := hs
      obtain ⟨rfl, c, hc, rfl⟩ := hy
      obtain ⟨k', hk', ek'⟩ := wd_at hc
      rw [ek']
      have hi2 : i < sizeLine := Nat.lt_of_lt_of_le hi (by rw [wd_size]; exact wd_len x)
      have rl1 := Same.tup s1 rl
      walk_at "rd"
      exact lc_end hD s1 hd hi2 (Same.refl _) (by rw [hk']; rfl)
    · obtain ⟨s1, hd⟩ := hs
      have S1 := S.ex s1
      rw [wd_size, range_map (f := fun k => V.int (st.rules.per k))] at hd
      walk_at "rd"
      refine r_sum (ns := x.ks.map st.rules.per) (SqL.of (by rw [hd, List.map_map]; rfl)) ?_
      refine r_I (wide_div (b := 302) (show 0 < x.per st.rules by omega) (abs_of (show 0 ≤ x.per st.rules by omega) hper.2) (by decide) (by decide)) ?_
      walk_at "rd"
      rw [show (x.ks.map st.rules.per).sum = x.per st.rules from rfl]
      rcases Int.lt_or_le 0 ((t - st.beg) / x.per st.rules) with h0 | h0
      · refine r_ifT (decide_eq_true h0) ?_
        rw [if_neg Bool.false_ne_true, if_pos h0] at q
        walk_at "rd"
        have hb : (t - st.beg) / x.per st.rules ≤ t - st.beg := by
          have hnn : 0 ≤ t - st.beg := by
            rcases Int.lt_or_le (t - st.beg) 0 with hn | hn
            · have := Int.ediv_neg_of_neg_of_pos hn (show 0 < x.per st.rules by omega)
              omega
            · exact hn
          exact Int.ediv_le_self _ hnn
        refine u_skip S1.sat hk (by omega) (by omega) hl fun H2 h2 => ?_
        walk_at "rd"
        exact q _ h2
      · refine r_ifF (decide_eq_false (show ¬ 0 < (t - st.beg) / x.per st.rules by omega)) ?_
        rw [if_neg Bool.false_ne_true, if_neg (show ¬ 0 < (t - st.beg) / x.per st.rules by omega)] at q
        walk_at "rd"
        exact q _ S1.sat
  · rw [hlg] at q
    refine r_ifF rfl ?_
    walk_at "rd"
    exact q _ S.sat
theorem ok_State_jump (T : Txt K mg) : C8.Met P w K mg base 6 (He.ga K "State") "jump" (spJump K) [] := by
  refine metD (C_State T) (M_State_jump T) (D_State_jump T) sc_State_jump (fun _ _ _ _ _ _ us hl => match us, hl with | [_, _], _ => rfl) (fun vs H Q E h => ?_) (fun cdv A outer s H vs Q E hr h => ?_)
  · obtain ⟨_, _, _, _, _, rfl, _⟩ := h
    rfl
  · have hu := hu_of hr
    refine ⟨_, (pss_cons (ps_asg (pe_tup (pa_cons (pe_fld (pv 0) rfl) (pa_cons (pe_fld (pv 0) rfl) pa_nil))) (pg_tup (n := 2) rfl (pgs_cons (pg_name (i := 2) sc_State_jump.nd rfl (Or.inl rfl)) (pgs_cons (pg_name (i := 3) sc_State_jump.nd rfl (Or.inr rfl)) pgs_nil))))
      (pss_cons (ps_set (i := 4) sc_State_jump.nd rfl (Or.inl rfl) (C8.pe_mt (ok_State_following T) hr (by decide) (pv 0) (pa_cons (pv 2) pa_nil)))
      (pss_cons (ps_set (i := 5) sc_State_jump.nd rfl (Or.inl rfl) (pe_ifExp (pt_cmpR op_eq (pv 4) (pv 2) (nomark _)) (pv 2) pe_non))
      (pss_cons (ps_if (PW.pt (pw_and (pt_cmpR oq_notN (pv 4) pe_non (nomark _)) (pw_and (pt_cmpR op_ne (pv 4) (pv 2) (nomark _)) (pw_and1 (pt_cmpR op_eq (C8.pe_mt (ok_State_following T) hr (by decide) (pv 0) (pa_cons (pv 4) pa_nil)) (pv 2) (nomark _))))))
      (pss_one (ps_set (i := 5) sc_State_jump.nd rfl (Or.inl rfl) (pe_op oq_addZ (pv 4) (pv 2))))
      pss_nil)
      (pss_one (ps_if (PW.pt (pw_and (pt_cmpR oq_notN (pv 5) pe_non (nomark _)) (pw_and1 (pt_not (pt_val (pe_fld (pv 0) rfl))))))
      (pss_cons (ps_set (i := 6) sc_State_jump.nd rfl (Or.inl rfl) (pe_op op_fdivW (pe_op op_sub (pv 1) (pe_fld (pv 0) rfl)) (pe_callB (cr_sum rfl) (by rfl) (T_sum T) (by decide +kernel) (pa_cons (pe_lc (own := [("each", 7)]) rfl sc_State_jump.nd (pi_str (pv 5)) (blkOk_by (own := [("each", 7)]) (N := ["self", "tick", "kind", "rules", "later", "word", "times", "each"]) (sc := defScope s_State_jump) (by decide +kernel)) (fun _ _ _ _ _ => (pg_name (i := 7) sc_State_jump.nd rfl (Or.inl rfl))) (fun _ _ _ _ _ => pts_nil) (fun _ _ _ _ _ => (C8.pe_c (ok_period_of T) hr (by decide) rfl (pa_cons (pv 3) (pa_cons (pv 7) pa_nil))))) pa_nil))))
      (pss_one (ps_if (pt_cmpR op_gt (pv 6) pe_int (nomark _))
      (pss_one (ps_expr (C8.pe_mt (ok_State_skip T) hr (by decide) (pv 0) (pa_cons (pv 5) (pa_cons (pv 6) pa_nil)))))
      pss_nil)))
      pss_nil)))))), ?_⟩
    walk_at "cx"
    obtain ⟨p, F, st, t, k, rfl, ⟨a, S⟩, hk, hd, ht, hl, q⟩ := h
    have ek : a.vk = kv k := by rw [S.ek, hk]; rfl
    walk_at "rd"
    rename_i t1 ht1
    have S1 := S.new (o := .tup [a.vk, .ref a.ar]) ht1
    walk_at "rd"
    rw [ek] at S1 ⊢
    cases hf : st.following k with
    | none =>
      refine u_fwE S1.sat hd (v := .non) (by rw [hf]; rfl) fun H2 a2 S2 => ?_
      walk_at "rd"
      have e1 : st.jump t k = st := by
        unfold MSt.jump MSt.word
        rw [hf]
      rw [e1] at q
      exact q _ S2.sat
    | some k' =>
      refine u_fwE S1.sat hd (v := kv k') (by rw [hf]; rfl) fun H2 a2 S2 => ?_
      walk_at "rd"
      by_cases hkk : k' = k
      · subst hkk
        refine r_ifT (by simp) ?_
        walk_at "rd"
        refine r_ifF (by simp) ?_
        walk_at "rd"
        exact jmp_tail T S2 (x := .one k') one_str.symm hk (by unfold MSt.word; rw [hf]; simp) (Same.tup S2.s S.rl) ht hl q
      · refine r_ifF (by rw [kv_eq]; simpa using hkk) ?_
        walk_at "rd"
        refine r_ifT (by rw [kv_eq]; simpa using hkk) ?_
        walk_at "rd"
        have e0 : k = k'.ot := by cases k <;> cases k' <;> first | rfl | exact absurd rfl hkk
        cases hf2 : st.following k' with
        | none =>
          refine u_fwE S2.sat hd (v := .non) (by rw [hf2]; rfl) fun H3 a3 S3 => ?_
          walk_at "rd"
          have e1 : st.jump t k = st := by
            unfold MSt.jump MSt.word
            rw [hf]
            simp only
            rw [if_neg hkk, hf2, if_neg (by simp)]
          rw [e1] at q
          exact q _ S3.sat
        | some k2 =>
          refine u_fwE S2.sat hd (v := kv k2) (by rw [hf2]; rfl) fun H3 a3 S3 => ?_
          walk_at "rd"
          by_cases h2 : k2 = k
          · subst h2
            refine r_ifT (by simp) ?_
            walk_at "rd"
            have e3 : k'.str.length + k2.str.length ≤ sizeLine := by cases k' <;> cases k2 <;> decide +kernel
            refine r_addZ e3 ?_
            walk_at "rd"
            have e4 : k'.str ++ k2.str = (Wd.two k').str := by
              rw [e0]
              cases k' <;> decide +kernel
            exact jmp_tail T S3 (x := .two k') e4 hk (by unfold MSt.word; rw [hf]; simp only; rw [if_neg hkk, hf2, if_pos rfl]) (Same.tup S3.s S.rl) ht hl q
          · refine r_ifF (by rw [kv_eq]; simpa using h2) ?_
            walk_at "rd"
            have e1 : st.jump t k = st := by
              unfold MSt.jump MSt.word
              rw [hf]
              simp only
              rw [if_neg hkk, hf2, if_neg (by simpa using h2)]
            rw [e1] at q
            exact q _ S3.sat
theorem u_jump {H : Hp} {Q : VK} {E : XK} {p : Addr} {F : Hp} {st : MSt} {t : Int} {k : Kd} (h : SAt K F H p st) (hk : st.kind = some k) (hd : st.down.length ≤ 2) (ht : t - st.beg < 2 ^ 400) (hl : st.runs.length < sizeLine) (q : ∀ H', SAt K F H' p (st.jump t k) → Q .non H') : spJump K [.ref p, .int t] H Q E := ⟨p, F, st, t, k, rfl, h, hk, hd, ht, hl, q⟩
end
end
section
section
variable {P : Program} {w : World} {K : PySem.W.Frag} {mg : Str → Option Value} {base : Heap}
theorem adv_tail {F H : Hp} {p ar : Addr} {a : StA} {st : MSt} (T : Txt K mg) {k : Kd} {t : Int} {v4 v5 : Option V} {nx : L2.St → Hp → Prop} {rt : VK} {bk ct : L2.St → Hp → Prop} (S : StAt K F H p a st) (hk : st.kind = some k) (rl : SqT K H ar st.rules.vs) (hd : st.down.length ≤ 2) (hr : st.runs.length + 1 < sizeLine) (hl : st.log.length + 1 < sizeLine) (hb : t - st.beg < 2 ^ 400)
    (hstop : t < st.beg + st.rules.per k → rt .non H) (hgo : ¬ t < st.beg + st.rules.per k → ∀ H' v5, SAt K F H' p (decJump t (st.decide (st.beg + st.rules.per k) k)) → nx [some (.ref p), some (.int t), some (.ref ar), some (kv k), v4, v5] H') :
    tSeq (tAsg (tOp (rI0 fun i j => V.int (i + j)) (tFld K (tVar 0) "kept_begin") (tCall (spPer K) [] C8.E0 (tCons (tVar 2) (tCons (tVar 3) tNil)))) (gName 5))
      (tSeq (tIfS (tTest (tOp (rI0 fun i j => V.bl (decide (j < i))) (tVar 5) (tVar 1))) tRetN tNext)
        (tSeq (tDrop (tMeth (He.ga K "State") "decide" (spDec K) [] C8.E0 (tVar 0) (tCons (tVar 5) tNil)))
          (tIfS (tTest (tOp rNotNq (tFld K (tVar 0) "kept_kind") (tC V.non))) (tDrop (tMeth (He.ga K "State") "jump" (spJump K) [] C8.E0 (tVar 0) (tCons (tVar 1) tNil))) tNext)))
      { nx := nx, rt := rt, bk := bk, ct := ct } [some (.ref p), some (.int t), some (.ref ar), some (kv k), v4, v5] H := by
  walk_at "rd"
  rcases Int.lt_or_le t (st.beg + st.rules.per k) with h1 | h1
  · refine r_ifT (decide_eq_true h1) ?_
    walk_at "rd"
    exact hstop h1
  · refine r_ifF (decide_eq_false (show ¬ t < st.beg + st.rules.per k by omega)) ?_
    walk_at "rd"
    refine u_dec S.sat hk hd (by omega) hl fun H2 ⟨a2, S2⟩ => ?_
    have hgo2 := hgo (by omega)
    have f := dec_f st (st.beg + st.rules.per k) k
    walk_at "rd"
    cases hk2 : (st.decide (st.beg + st.rules.per k) k).kind with
    | none =>
      have ek : a2.vk = .non := by rw [S2.ek, hk2]; rfl
      rw [ek]
      walk_at "rd"
      have e1 : decJump t (st.decide (st.beg + st.rules.per k) k) = st.decide (st.beg + st.rules.per k) k := by unfold decJump; rw [hk2]
      rw [e1] at hgo2
      exact hgo2 _ _ S2.sat
    | some k' =>
      have ek : a2.vk = kv k' := by rw [S2.ek, hk2]; rfl
      rw [ek]
      walk_at "rd"
      have e1 : decJump t (st.decide (st.beg + st.rules.per k) k) = (st.decide (st.beg + st.rules.per k) k).jump t k' := by unfold decJump; rw [hk2]
      rw [e1] at hgo2
      have hper := Rl.per_sz S.ok k
      refine u_jump S2.sat hk2 (by rw [f.d]; exact hd) ?_ (by have := f.r; omega) fun H3 h3 => ?_
      · rcases f.k with ⟨e, _⟩ | ⟨k3, _, e⟩
        · rw [e] at hk2; cases hk2
        · rw [e]
          omega
      walk_at "rd"
      exact hgo2 _ _ h3
def spAdv (K : PySem.W.Frag) : Sp := fun vs H Q _ => ∃ (p : Addr) (F : Hp) (st : MSt) (t : Int) (n : Nat), vs = [.ref p, .int t] ∧ SAt K F H p st ∧ AdvOk n t st ∧ ∀ H', SAt K F H' p (advGo n t st) → Q .non H'
theorem ok_State_advance (T : Txt K mg) : C8.Met P w K mg base 7 (He.ga K "State") "advance" (spAdv K) [] := by
  refine metD (C_State T) (M_State_advance T) (D_State_advance T) sc_State_advance (fun _ _ _ _ _ _ us hl => match us, hl with | [_, _], _ => rfl) (fun vs H Q E h => ?_) (fun cdv A outer s H vs Q E hr h => ?_)
  · obtain ⟨_, _, _, _, _, rfl, _⟩ := h
    rfl
  · have hu := hu_of hr
    refine ⟨_, (pss_one (ps_while PassesOwn.never (pt_cmpR oq_notN (pe_fld (pv 0) rfl) pe_non (nomark _))
      (pss_cons (ps_par rfl sc_State_advance.nd (i := 2) (j := 3) rfl rfl (by decide) rfl rfl (pa_cons (pe_fld (pv 0) rfl) (pa_cons (pe_fld (pv 0) rfl) pa_nil)) rfl)
      (pss_cons (ps_set (i := 4) sc_State_advance.nd rfl (Or.inl rfl) (pe_op op_add (pe_fld (pv 0) rfl) (pe_ix ix_tup (pv 2) pe_int (fun _ _ => rfl))))
      (pss_cons (ps_if (PW.pt (pw_and (pt_val (C8.pe_c (ok_can_hear T) hr (by decide) rfl (pa_cons (pv 2) (pa_cons (pv 3) pa_nil)))) (pw_and1 (pt_not (pt_val (pe_fld (pv 0) rfl))))))
      (pss_cons (ps_if (pt_cmpR op_gt (pv 4) (pv 1) (nomark _))
      (pss_one ps_retN)
      pss_nil)
      (pss_one (ps_expr (C8.pe_mt (ok_State_hear T) hr (by decide) (pv 0) (pa_cons (pv 4) pa_nil)))))
      pss_nil)
      (pss_cons (ps_set (i := 5) sc_State_advance.nd rfl (Or.inl rfl) (pe_op op_add (pe_fld (pv 0) rfl) (C8.pe_c (ok_period_of T) hr (by decide) rfl (pa_cons (pv 2) (pa_cons (pv 3) pa_nil)))))
      (pss_cons (ps_if (pt_cmpR op_gt (pv 5) (pv 1) (nomark _))
      (pss_one ps_retN)
      pss_nil)
      (pss_cons (ps_expr (C8.pe_mt (ok_State_decide T) hr (by decide) (pv 0) (pa_cons (pv 5) pa_nil)))
      (pss_one (ps_if (pt_cmpR oq_notN (pe_fld (pv 0) rfl) pe_non (nomark _))
      (pss_one (ps_expr (C8.pe_mt (ok_State_jump T) hr (by decide) (pv 0) (pa_cons (pv 1) pa_nil))))
      pss_nil)))))))))), ?_⟩
    walk_at "cx"
    obtain ⟨p, F, st, t, n, rfl, ⟨a, S⟩, hA, q⟩ := h
    refine ⟨fun m σ Hc => ∃ st' a' v2 v3 v4 v5, σ = [some (.ref p), some (.int t), v2, v3, v4, v5] ∧ StAt K F Hc p a' st' ∧ AdvOk m t st' ∧ advGo m t st' = advGo n t st, ⟨n, st, a, none, none, none, none, rfl, S, hA, rfl⟩, ?_⟩
    rintro m σ Hc ⟨st', a', v2, v3, v4, v5, rfl, S', hA', hE⟩
    rw [← hE] at q
    clear hA S
    walk_at "rd"
    cases hk : st'.kind with
    | none =>
      have ek : a'.vk = .non := by rw [S'.ek, hk]; rfl
      rw [ek]
      walk_at "rd"
      have e1 : advGo m t st' = st' := by
        cases m with
        | zero => rfl
        | succ m => unfold advGo; rw [hk]
      rw [e1] at q
      exact q _ S'.sat
    | some k =>
      have ek : a'.vk = kv k := by rw [S'.ek, hk]; rfl
      rw [ek]
      cases m with
      | zero => rw [show st'.kind = none from hA'] at hk; cases hk
      | succ m =>
        rcases hA' with hn | ⟨k0, hk0, tok, hrest⟩
        · rw [hn] at hk; cases hk
        rw [hk] at hk0
        cases hk0
        refine r_ifT rfl ?_
        refine ⟨_, fun _ _ z => z, ?_⟩
        walk_at "rd"
        rw [ek]
        refine u_ch S'.rule ?_
        walk_at "rd"
        have hgo : ∀ (s1 : MSt) (H1 : Hp) (v4 v5 : Option V), (st'.rules.canHear k && !st'.heard && decide (t < st'.beg + st'.rules.d)) = false → heardSt st' k = s1 → ¬ t < s1.beg + s1.rules.per k → SAt K F H1 p (decJump t (s1.decide (s1.beg + s1.rules.per k) k)) →
            ∃ m', m' < m + 1 ∧ ∃ st'' a'' w2 w3 w4 w5, [some (.ref p), some (.int t), some (.ref a'.ar), some (kv k), v4, v5] = [some (.ref p), some (.int t), w2, w3, w4, w5] ∧ StAt K F H1 p a'' st'' ∧ AdvOk m' t st'' ∧ advGo m' t st'' = advGo n t st := by
          intro s1 H1 v4 v5 h1 h2 h3 ⟨a2, S2⟩
          subst h2
          have ht := turn_go h1 h3
          rw [ht] at hrest
          exact ⟨m, Nat.lt_succ_self m, _, a2, _, _, _, _, rfl, S2, hrest rfl, (advGo_go hk ht).symm.trans hE⟩
        have htail : ∀ (s1 : MSt) (a1 : StA) (H1 : Hp), (st'.rules.canHear k && !st'.heard && decide (t < st'.beg + st'.rules.d)) = false → heardSt st' k = s1 → t < s1.beg + s1.rules.per k → StAt K F H1 p a1 s1 → Q .non H1 := by
          intro s1 a1 H1 h1 h2 h3 S1
          subst h2
          rw [advGo_stop hk (turn_stop h1 h3)] at q
          exact q _ S1.sat
        have hr := tok.r
        have hl := tok.l
        cases h1 : st'.rules.canHear k
        · have e0 : (st'.rules.canHear k && !st'.heard && decide (t < st'.beg + st'.rules.d)) = false := by rw [h1]; rfl
          have e1 : heardSt st' k = st' := by unfold heardSt; rw [h1]; rfl
          refine r_ifF rfl ?_
          refine r_ifF rfl ?_
          exact adv_tail T S' hk S'.rule tok.d (by omega) (by omega) tok.b (fun z => htail st' a' Hc e0 e1 z S') (fun z H' v5 hS => hgo st' H' _ v5 e0 e1 z hS)
        · refine r_ifT rfl ?_
          walk_at "rd"
          cases h2 : st'.heard
          · refine r_ifT rfl ?_
            walk_at "rd"
            rcases Int.lt_or_le t (st'.beg + st'.rules.d) with h3 | h3
            · refine r_ifT (decide_eq_true h3) ?_
              walk_at "rd"
              rw [advGo_stop hk (turn_wait (by rw [h1, h2]; rfl) h3)] at q
              exact q _ S'.sat
            · have e0 : (st'.rules.canHear k && !st'.heard && decide (t < st'.beg + st'.rules.d)) = false := by rw [decide_eq_false (show ¬ t < st'.beg + st'.rules.d by omega), Bool.and_false]
              have e1 : heardSt st' k = st'.hear (st'.beg + st'.rules.d) k := by unfold heardSt; rw [h1, h2]; rfl
              refine r_ifF (decide_eq_false (show ¬ t < st'.beg + st'.rules.d by omega)) ?_
              walk_at "rd"
              refine u_hear S'.sat hk (by omega) fun H1 ⟨a1, S1⟩ => ?_
              have f := hear_f st' (st'.beg + st'.rules.d) k
              have rl1 : SqT K H1 a'.ar (st'.hear (st'.beg + st'.rules.d) k).rules.vs := by rw [f.rl]; exact Same.tup S1.s S'.rl
              exact adv_tail T S1 (f.k.trans hk) rl1 (by rw [f.d]; exact tok.d) (by rw [f.r]; omega) (by have := f.l; omega) (by rw [f.b]; exact tok.b) (fun z => htail _ a1 H1 e0 e1 z S1) (fun z H' v5 hS => hgo _ H' _ v5 e0 e1 z hS)
          · have e0 : (st'.rules.canHear k && !st'.heard && decide (t < st'.beg + st'.rules.d)) = false := by rw [h2, Bool.not_true, Bool.and_false, Bool.false_and]
            have e1 : heardSt st' k = st' := by unfold heardSt; rw [h2, Bool.not_true, Bool.and_false]; rfl
            refine r_ifF rfl ?_
            exact adv_tail T S' hk S'.rule tok.d (by omega) (by omega) tok.b (fun z => htail st' a' Hc e0 e1 z S') (fun z H' v5 hS => hgo st' H' _ v5 e0 e1 z hS)
theorem u_adv {H : Hp} {Q : VK} {E : XK} {p : Addr} {F : Hp} {st : MSt} {t : Int} {n : Nat} (h : SAt K F H p st) (hA : AdvOk n t st) (q : ∀ H', SAt K F H' p (advGo n t st) → Q .non H') : spAdv K [.ref p, .int t] H Q E := ⟨p, F, st, t, n, rfl, h, hA, q⟩
end
end
section
section
variable {P : Program} {w : World} {K : PySem.W.Frag} {mg : Str → Option Value} {base : Heap}
def spTidy (K : PySem.W.Frag) : Sp := fun vs H Q _ => ∃ (p : Addr) (F : Hp) (st : MSt), vs = [.ref p] ∧ SAt K F H p st ∧ RunsOk st.runs ∧ ∀ q xs H', Lst H H' q xs runV st.tidy → Q (.ref q) H'
theorem ok_State_tidy (T : Txt K mg) : C8.Met P w K mg base 7 (He.ga K "State") "tidy" (spTidy K) [] := by
  refine metD (C_State T) (M_State_tidy T) (D_State_tidy T) sc_State_tidy (fun _ _ _ _ _ _ us hl => match us, hl with | [_], _ => rfl) (fun vs H Q E h => ?_) (fun cdv A outer s H vs Q E hr h => ?_)
  · obtain ⟨_, _, _, rfl, _⟩ := h
    rfl
  · have hu := hu_of hr
    refine ⟨_, (pss_one (ps_ret (C8.pe_c (ok_tidy_runs T) hr (by decide) rfl (pa_cons (pe_fld (pv 0) rfl) (pa_cons (pe_fld (pv 0) rfl) pa_nil))))), ?_⟩
    walk_at "cx"
    obtain ⟨p, F, st, rfl, ⟨a, S⟩, hr, q⟩ := h
    walk_at "rd"
    refine u_tr S.rule S.ok (SqL.of S.hR) S.rR hr fun q' xs H' hL => ?_
    walk_at "rd"
    exact q _ _ _ hL
theorem u_tidy {H : Hp} {Q : VK} {E : XK} {p : Addr} {F : Hp} {st : MSt} (h : SAt K F H p st) (hr : RunsOk st.runs) (q : ∀ q xs H', Lst H H' q xs runV st.tidy → Q (.ref q) H') : spTidy K [.ref p] H Q E := ⟨p, F, st, rfl, h, hr, q⟩
def spFin (K : PySem.W.Frag) : Sp := fun vs H Q _ => ∃ (p : Addr) (F : Hp) (st st' : MSt) (n : Nat), vs = [.ref p] ∧ SAt K F H p st ∧ FinR n st st' ∧ ∀ H', SAt K F H' p st' → Q .non H'
theorem ok_State_finish (T : Txt K mg) : C8.Met P w K mg base 8 (He.ga K "State") "finish" (spFin K) [] := by
  refine metD (C_State T) (M_State_finish T) (D_State_finish T) sc_State_finish (fun _ _ _ _ _ _ us hl => match us, hl with | [_], _ => rfl) (fun vs H Q E h => ?_) (fun cdv A outer s H vs Q E hr h => ?_)
  · obtain ⟨_, _, _, _, _, rfl, _⟩ := h
    rfl
  · have hu := hu_of hr
    refine ⟨_, (pss_one (ps_while PassesOwn.never (pt_cmpR oq_notN (pe_fld (pv 0) rfl) pe_non (nomark _))
      (pss_one (ps_expr (C8.pe_mt (ok_State_advance T) hr (by decide) (pv 0) (pa_cons (pe_op op_add (pe_fld (pv 0) rfl) (C8.pe_c (ok_period_of T) hr (by decide) rfl (pa_cons (pe_fld (pv 0) rfl) (pa_cons (pe_fld (pv 0) rfl) pa_nil)))) pa_nil)))))), ?_⟩
    walk_at "cx"
    obtain ⟨p, F, st, st', n, rfl, ⟨a, S⟩, hA, q⟩ := h
    refine ⟨fun m σ Hc => ∃ s1 a1, σ = [some (.ref p)] ∧ StAt K F Hc p a1 s1 ∧ FinR m s1 st', ⟨n, st, a, rfl, S, hA⟩, ?_⟩
    rintro m σ Hc ⟨s1, a1, rfl, S1, hA1⟩
    walk_at "rd"
    cases hA1 with
    | done hk =>
      have ek : a1.vk = .non := by rw [S1.ek, hk]; rfl
      rw [ek]
      walk_at "rd"
      exact q _ S1.sat
    | go hk h1 h2 =>
      rename_i n1 m1 k
      have ek : a1.vk = kv k := by rw [S1.ek, hk]; rfl
      rw [ek]
      refine r_ifT rfl ?_
      refine ⟨_, fun _ _ z => z, ?_⟩
      walk_at "rd"
      rw [ek]
      refine u_per S1.rule ?_
      walk_at "rd"
      refine u_adv S1.sat h1 fun H2 ⟨a2, S2⟩ => ?_
      walk_at "rd"
      exact ⟨n1, Nat.lt_succ_self n1, _, a2, rfl, S2, h2⟩
theorem u_fin {H : Hp} {Q : VK} {E : XK} {p : Addr} {F : Hp} {st st' : MSt} {n : Nat} (h : SAt K F H p st) (hA : FinR n st st') (q : ∀ H', SAt K F H' p st' → Q .non H') : spFin K [.ref p] H Q E := ⟨p, F, st, st', n, rfl, h, hA, q⟩
end
end
section
section
variable {P : Program} {w : World} {K : PySem.W.Frag} {mg : Str → Option Value} {base : Heap}
def spHap (K : PySem.W.Frag) : Sp := fun vs H Q _ => ∃ (p : Addr) (F : Hp) (st : MSt) (t : Int) (k : Kd) (dn : Bool), vs = [.ref p, .int t, kv k, .bl dn] ∧ SAt K F H p st ∧ DownOk st.down ∧ (dn = true → k ∉ st.down) ∧ st.runs.length < sizeLine ∧ st.log.length + 3 < sizeLine ∧ ∀ H', SAt K F H' p (st.happen t k dn) → Q .non H'
theorem perm2 {α : Type} {a b : α} {ys : List α} (h : ys.Perm [a, b]) : ys = [a, b] ∨ ys = [b, a] := by
  have hl := h.length_eq
  match ys, hl with
  | [x, y], _ =>
    have hx : x ∈ [a, b] := h.subset (List.mem_cons_self ..)
    rcases List.mem_cons.mp hx with rfl | hx
    · left
      have := List.perm_singleton.mp (List.Perm.cons_inv h)
      rw [this]
    · right
      obtain rfl := List.mem_singleton.mp hx
      have h2 : [x, y].Perm [x, a] := h.trans (List.Perm.swap ..)
      have := List.perm_singleton.mp (List.Perm.cons_inv h2)
      rw [this]
theorem sort_down {d : List Kd} {k : Kd} {ys : List Str} (hd : DownOk d) (hk : k ∉ d) (hp : ys.Perm (d.map Kd.str ++ [k.str])) (hs : sortedS ys = true) : ys = (pressDown k d).map Kd.str ∧ DownOk (pressDown k d) := by
  rcases hd with rfl | rfl | rfl | rfl
  · have := List.perm_singleton.mp hp
    subst this
    cases k
    · exact ⟨rfl, .inr (.inl rfl)⟩
    · exact ⟨rfl, .inr (.inr (.inl rfl))⟩
  · cases k
    · exact absurd (List.mem_cons_self ..) hk
    · rcases perm2 hp with rfl | rfl
      · exact absurd hs (by decide +kernel)
      · exact ⟨rfl, .inr (.inr (.inr rfl))⟩
  · cases k
    · rcases perm2 hp with rfl | rfl
      · exact ⟨rfl, .inr (.inr (.inr rfl))⟩
      · exact absurd hs (by decide +kernel)
    · exact absurd (List.mem_cons_self ..) hk
  · cases k
    · exact absurd (List.mem_cons_of_mem _ (List.mem_cons_self ..)) hk
    · exact absurd (List.mem_cons_self ..) hk
theorem ok_State_happen (T : Txt K mg) : C8.Met P w K mg base 6 (He.ga K "State") "happen" (spHap K) [] := by
  refine metD (C_State T) (M_State_happen T) (D_State_happen T) sc_State_happen (fun _ _ _ _ _ _ us hl => match us, hl with | [_, _, _, _], _ => rfl) (fun vs H Q E h => ?_) (fun cdv A outer s H vs Q E hr h => ?_)
  · obtain ⟨_, _, _, _, _, _, rfl, _⟩ := h
    rfl
  · have hu := hu_of hr
    refine ⟨_, (pss_cons (ps_expr (C8.pe_mt (ok_State_note T) hr (by decide) (pv 0) (pa_cons (pv 1) (pa_cons (pe_op oq_addZ (pe_ifExp (pt_val (pv 3)) pe_str pe_str) (pv 2)) pa_nil))))
      (pss_cons (ps_if (pt_not (pt_val (pv 3)))
      (pss_cons (ps_fld (pv 0) (pe_lc (own := [("other", 4)]) rfl sc_State_happen.nd (pi_list (pe_fld (pv 0) rfl)) (blkOk_by (own := [("other", 4)]) (N := ["self", "tick", "lever", "is_down", "other"]) (sc := defScope s_State_happen) (by decide +kernel)) (fun _ _ _ _ _ => (pg_name (i := 4) sc_State_happen.nd rfl (Or.inl rfl))) (fun _ _ _ _ _ => (pts_one (pt_cmpR op_ne (pv 4) (pv 2) (nomark _)))) (fun _ _ _ _ _ => (pv 4))) rfl)
      (pss_one ps_retN))
      pss_nil)
      (pss_cons (ps_fld (pv 0) (pe_callB cr_sortedS (by rfl) (T_sorted T) (by decide +kernel) (pa_cons (pe_lst (StX.pa_star (pe_fld (pv 0) rfl) (pa_cons (pv 2) pa_nil))) pa_nil)) rfl)
      (pss_one (ps_if (pt_cmpR oq_isN (pe_fld (pv 0) rfl) pe_non (nomark _))
      (pss_one (ps_expr (C8.pe_mt (ok_State_start T) hr (by decide) (pv 0) (pa_cons (pv 1) (pa_cons (pv 2) pa_nil)))))
      (pss_one (ps_if (PW.pt (pw_and (pt_val (pe_fld (pv 0) rfl)) (pw_and (pt_cmpR op_eq (pv 2) (pe_fld (pv 0) rfl) (nomark _)) (pw_and (pt_val (pe_ix ix_tup (pe_fld (pv 0) rfl) pe_int (fun _ _ => rfl))) (pw_and1 (pt_not (pt_val (pe_fld (pv 0) rfl))))))))
      (pss_cons (ps_fld (pv 0) pe_bl rfl)
      (pss_one (ps_expr (C8.pe_mt (ok_State_note T) hr (by decide) (pv 0) (pa_cons (pv 1) (pa_cons (pe_op oq_addZ pe_str (pv 2)) pa_nil))))))
      (pss_one (ps_if (PW.pt (pw_and (pt_val (pe_fld (pv 0) rfl)) (pw_and (pt_cmpR op_ne (pv 2) (pe_fld (pv 0) rfl) (nomark _)) (pw_and (pt_cmpR op_ne (pe_ix ix_tup (pe_fld (pv 0) rfl) pe_int (fun _ _ => rfl)) pe_str (nomark _)) (pw_and1 (pt_not (pt_val (pe_fld (pv 0) rfl))))))))
      (pss_one (ps_expr (C8.pe_mt (ok_State_note_other T) hr (by decide) (pv 0) (pa_cons (pv 1) pa_nil))))
      pss_nil))))))))), ?_⟩
    walk_at "cx"
    obtain ⟨p, F, st, t, k, dn, rfl, ⟨a, S⟩, hd, hn, hl1, hl2, q⟩ := h
    walk_at "rd"
    cases dn with
    | false =>
      walk_at "rd"
      have e1 : (("release " : Str).length + k.str.length) ≤ sizeLine := by cases k <;> decide +kernel
      refine r_addZ e1 ?_
      walk_at "rd"
      have e2 : ("release " : Str) ++ k.str = (Sw.release k).str := by cases k <;> decide +kernel
      rw [e2]
      refine u_note S.sat (by omega) fun H1 ⟨a1, S1⟩ => ?_
      walk_at "rd"
      rename_i N hN
      refine lc_it walk_list (fun j H' => Same H1 H' ∧ H' N = some (.lst (((st.down.take j).filter fun o => decide (o ≠ k)).map kv))) ⟨Same.new hN, upd_same⟩ (fun _ _ _ z => SqL.of (z.1 _ _ S1.hD)) (fun j y Hc Hd hj hs hy => ?_) (fun Hc hs => ?_)
      · obtain ⟨s3, h3⟩ := hs
        obtain ⟨rfl, hc⟩ := hy
        rw [List.getElem?_map] at hc
        cases ek : st.down[j]? with
        | none =>
          rw [show (st.note t (Sw.release k)).down = st.down from rfl, ek] at hc
          cases hc
        | some o =>
          rw [show (st.note t (Sw.release k)).down = st.down from rfl, ek] at hc
          obtain rfl := Option.some.inj hc
          have hj2 : j < sizeLine := Nat.lt_of_lt_of_le hj (by rw [List.length_map]; exact Nat.le_trans hd.len (by decide))
          walk_at "rd"
          rw [kv_eq]
          by_cases hok : o = k
          · refine r_ifF (by rw [decide_eq_true hok]; rfl) ?_
            exact lc_drop s3 h3 ek (by rw [hok]; simp)
          · refine r_ifT (by rw [decide_eq_false hok]; rfl) ?_
            walk_at "rd"
            exact lc_keep hN s3 h3 hj2 ek (Same.refl _) (by simp [hok]) rfl
      · obtain ⟨s3, h3⟩ := hs
        rw [List.length_map, show (st.note t (Sw.release k)).down = st.down from rfl, List.take_length] at h3
        have S3 := S1.ex s3
        walk_at "rd"
        have S4 := S3.set_down (Dn' := N) (down' := st.down.filter fun o => decide (o ≠ k)) h3 (fun e => by rw [e] at hN; rw [S1.hR] at hN; cases hN) (fun e => by rw [e] at hN; rw [S1.hG] at hN; cases hN) (Same.free' S1.s hN)
        exact q _ ⟨_, S4⟩
    | true =>
      walk_at "rd"
      have e1 : (("press " : Str).length + k.str.length) ≤ sizeLine := by cases k <;> decide +kernel
      refine r_addZ e1 ?_
      walk_at "rd"
      have e2 : ("press " : Str) ++ k.str = (Sw.press k).str := by cases k <;> decide +kernel
      rw [e2]
      refine u_note S.sat (by omega) fun H1 ⟨a1, S1⟩ => ?_
      walk_at "rd"
      refine ⟨?_, fun q1 hq1 => ?_⟩
      · rw [List.length_append, List.length_map]
        show st.down.length + 1 ≤ sizeLine
        have := hd.len
        exact Nat.le_trans (show st.down.length + 1 ≤ 3 by omega) (by decide)
      walk_at "rd"
      refine ⟨q1, st.down.map Kd.str ++ [k.str], rfl, SqL.of (by rw [upd_same, List.map_append, List.map_map]; rfl), ?_, fun ys q2 hperm hsort hq2 => ?_⟩
      · rw [List.length_append, List.length_map]
        show st.down.length + 1 < 64
        have := hd.len
        omega
      obtain ⟨rfl, hd2⟩ := sort_down hd (hn rfl) hperm hsort
      have S2 := (S1.new (o := .lst (List.map kv (st.note t (Sw.press k)).down ++ [kv k])) hq1).new (o := .lst (((pressDown k st.down).map Kd.str).map V.str)) hq2
      have hS2 := S1.hR
      have hS3 := S1.hG
      walk_at "rd"
      have n0 : H1 q2 = none := Same.free' (Same.new hq1) hq2
      have S3 := S2.set_down (Dn' := q2) (down' := pressDown k st.down) (by rw [upd_same, List.map_map]; rfl) (fun e => by rw [e, hS2] at n0; cases n0) (fun e => by rw [e, hS3] at n0; cases n0) (Same.free' S1.s n0)
      generalize upd _ p (.ins (He.ga K "State") _ (putF "kept_down" _ _)) = H3 at *
      have hq : st.happen t k true = hapEnd ({ st.note t (Sw.press k) with down := pressDown k st.down }) t k := rfl
      rw [hq] at q
      have hr2 : ({ st.note t (Sw.press k) with down := pressDown k st.down } : MSt).runs.length < sizeLine := hl1
      have hl3 : ({ st.note t (Sw.press k) with down := pressDown k st.down } : MSt).log.length + 2 < sizeLine := by
        have := note_len st t (Sw.press k)
        show (st.note t (Sw.press k)).log.length + 2 < sizeLine
        omega
      clear hq S1 S2 hS2 hS3 n0 S
      generalize ({ st.note t (Sw.press k) with down := pressDown k st.down } : MSt) = s2 at *
      unfold hapEnd at q
      cases hk : s2.kind with
      | none =>
        rw [hk] at q
        walk_at "rd"
        rw [S3.ek, hk]
        refine r_ifT rfl ?_
        walk_at "rd"
        refine u_start S3.sat hr2 (by omega) fun H4 h4 => ?_
        walk_at "rd"
        exact q _ h4
      | some k' =>
        rw [hk] at q
        simp only at q
        walk_at "rd"
        rw [S3.ek, hk]
        refine r_ifF rfl ?_
        walk_at "rd"
        have e5 : okv s2.kind = kv k' := by rw [hk]; rfl
        cases hh : s2.heard
        · refine r_ifF rfl ?_
          refine r_ifF rfl ?_
          walk_at "rd"
          rw [hh] at q
          exact q _ S3.sat
        · rw [hh] at q
          refine r_ifT rfl ?_
          walk_at "rd"
          rw [S3.ek, e5]
          refine r_eq rfl ?_
          walk_at "rd"
          rw [kv_eq]
          by_cases hkk : k = k'
          · subst hkk
            refine r_ifT (by simp) ?_
            walk_at "rd"
            cases hag : s2.rules.ag
            · refine r_ifF rfl ?_
              refine r_ifF rfl ?_
              walk_at "rd"
              rw [S3.ek, e5]
              refine r_ne rfl ?_
              walk_at "rd"
              rw [kv_eq]
              refine r_ifF (by simp) ?_
              refine r_ifF rfl ?_
              walk_at "rd"
              rw [hag] at q
              simp only [decide_true, Bool.true_and, Bool.and_true, Bool.and_false, Bool.false_and, Bool.not_true, Bool.false_eq_true, if_false, ne_eq, not_true_eq_false, decide_false] at q
              exact q _ S3.sat
            · refine r_ifT rfl ?_
              walk_at "rd"
              cases how : s2.own
              · refine r_ifT rfl ?_
                walk_at "rd"
                have S4 := S3.set_own true
                generalize upd _ p (.ins (He.ga K "State") _ (putF "kept_is_own" _ _)) = H4 at *
                try dsimp only at S4
                walk_at "rd"
                have e6 : (("remember " : Str).length + k.str.length) ≤ sizeLine := by cases k <;> decide +kernel
                refine r_addZ e6 ?_
                walk_at "rd"
                have e7 : ("remember " : Str) ++ k.str = (Sw.remember k).str := by cases k <;> decide +kernel
                rw [e7]
                refine u_note S4.sat (show s2.log.length < sizeLine by omega) fun H5 h5 => ?_
                walk_at "rd"
                rw [hag, how] at q
                simp only [decide_true, Bool.true_and, Bool.not_false, if_true] at q
                rw [hk, hh] at h5
                exact q _ h5
              · refine r_ifF rfl ?_
                walk_at "rd"
                rw [S3.ek, e5]
                refine r_ne rfl ?_
                walk_at "rd"
                rw [kv_eq]
                refine r_ifF (by simp) ?_
                refine r_ifF rfl ?_
                walk_at "rd"
                rw [hag, how] at q
                simp only [decide_true, Bool.true_and, Bool.and_true, Bool.and_false, Bool.false_and, Bool.not_true, Bool.false_eq_true, if_false, ne_eq, not_true_eq_false, decide_false] at q
                exact q _ S3.sat
          · refine r_ifF (by simpa using hkk) ?_
            refine r_ifF rfl ?_
            walk_at "rd"
            rw [S3.ek, e5]
            refine r_ne rfl ?_
            walk_at "rd"
            rw [kv_eq]
            refine r_ifT (by simpa using hkk) ?_
            walk_at "rd"
            have hkk2 : decide (k = k') = false := decide_eq_false hkk
            have hkk3 : decide (k ≠ k') = true := decide_eq_true hkk
            by_cases hrm : s2.rules.rem = .no
            · refine r_ifF (by rw [hrm]; decide +kernel) ?_
              refine r_ifF rfl ?_
              walk_at "rd"
              rw [hkk2, hkk3, hrm] at q
              simp only [Bool.true_and, Bool.and_true, Bool.and_false, Bool.false_and, Bool.false_eq_true, if_false, ne_eq, not_true_eq_false, decide_false] at q
              exact q _ S3.sat
            · have hrm2 : decide (s2.rules.rem ≠ .no) = true := decide_eq_true hrm
              refine r_ifT (by cases e : s2.rules.rem <;> first | exact absurd e hrm | decide +kernel) ?_
              walk_at "rd"
              rw [hkk2, hkk3, hrm2] at q
              cases hot : s2.other
              · refine r_ifT rfl ?_
                walk_at "rd"
                refine u_no S3.sat hk (by omega) fun H5 h5 => ?_
                walk_at "rd"
                rw [hot] at q
                simp only [Bool.true_and, Bool.and_true, Bool.and_false, Bool.false_and, Bool.not_false, Bool.false_eq_true, if_false, if_true] at q
                exact q _ h5
              · refine r_ifF rfl ?_
                walk_at "rd"
                rw [hot] at q
                simp only [Bool.true_and, Bool.and_true, Bool.and_false, Bool.false_and, Bool.not_true, Bool.false_eq_true, if_false] at q
                exact q _ S3.sat
theorem u_hap {H : Hp} {Q : VK} {E : XK} {p : Addr} {F : Hp} {st : MSt} {t : Int} {k : Kd} {dn : Bool} (h : SAt K F H p st) (hd : DownOk st.down) (hn : dn = true → k ∉ st.down) (hl1 : st.runs.length < sizeLine) (hl2 : st.log.length + 3 < sizeLine) (q : ∀ H', SAt K F H' p (st.happen t k dn) → Q .non H') : spHap K [.ref p, .int t, kv k, .bl dn] H Q E := ⟨p, F, st, t, k, dn, rfl, h, hd, hn, hl1, hl2, q⟩
end
end
section
section
variable {P : Program} {w : World} {K : PySem.W.Frag} {mg : Str → Option Value} {base : Heap}
theorem r_dc {wi : TI} {g : TG} {tt : TT} {tk tv : TE} {vs : List Nat} {σ : L2.St} {H : Hp} {Q : VK} (h : wi σ H fun J H1 => ∀ D, H1 D = none → ∃ W : Nat → Nat → Hp → Prop, (∃ m, W 0 m (upd H1 D (.dK []))) ∧ ∀ i m H, W i m H →
  (J.stop i H ∧ Q (.ref D) H) ∨ (J.go i H ∧ ∃ Nx : Hp → Prop, (∀ H', Nx H' → ∃ m', m' < m ∧ W (i + 1) m' H') ∧ ∀ x H', J.yld i H x H' → g x (wipe σ vs) H' fun σ2 H2 => wipe σ2 vs = wipe σ vs ∧ tt σ2 H2 fun b H3 =>
    if b = true then tk σ2 H3 fun y H4 => tv σ2 H4 fun z H5 => ∃ kvs k, y = kV k ∧ H5 D = some (.dK kvs) ∧ kvs.length < sizeLine ∧ Nx (upd H5 D (.dK (putK kvs k z))) else Nx H3)) : tDc wi g tt tk tv vs σ H Q := h
def zc (w : Sw) : Key × V := (.inr w.str, .int 0)
theorem zc_put : ∀ (i : Nat) (w : Sw), allSw[i]? = some w → putK ((allSw.take i).map zc) (.inr w.str : Key) (.int 0) = (allSw.take (i + 1)).map zc
  | 0, _, h => by cases Option.some.inj h; rfl
  | 1, _, h => by cases Option.some.inj h; rfl
  | 2, _, h => by cases Option.some.inj h; rfl
  | 3, _, h => by cases Option.some.inj h; rfl
  | 4, _, h => by cases Option.some.inj h; rfl
  | 5, _, h => by cases Option.some.inj h; rfl
  | 6, _, h => by cases Option.some.inj h; rfl
  | 7, _, h => by cases Option.some.inj h; rfl
  | 8, _, h => by cases Option.some.inj h; rfl
  | 9, _, h => by cases Option.some.inj h; rfl
  | n + 10, _, h => by cases h
structure IAt (K : PySem.W.Frag) (F H : Hp) (p C dx : Addr) (fs : List (Str × V)) : Prop where
  s : Same F H
  p0 : F p = none
  hp : H p = some (.ins C dx fs)
theorem IAt.set {F H : Hp} {p C dx : Addr} {fs : List (Str × V)} (I : IAt K F H p C dx fs) (f : Str) (v : V) : IAt K F (upd H p (.ins C dx (putF f v fs))) p C dx (putF f v fs) := ⟨Same.mut I.s I.p0, I.p0, upd_same⟩
theorem IAt.ex {F H H' : Hp} {p C dx : Addr} {fs : List (Str × V)} (I : IAt K F H p C dx fs) (s : Same H H') : IAt K F H' p C dx fs := ⟨Same.trans I.s s, I.p0, s _ _ I.hp⟩
theorem IAt.oth {F H : Hp} {p C dx : Addr} {fs : List (Str × V)} (I : IAt K F H p C dx fs) {q : Addr} {xs : List V} (f : Str) (v : V) (h : H q = some (.lst xs)) : upd H p (.ins C dx (putF f v fs)) q = some (.lst xs) := by
  rw [upd_ne (ne_of_o h I.hp (by simp))]
  exact h
theorem IAt.othD {F H : Hp} {p C dx : Addr} {fs : List (Str × V)} (I : IAt K F H p C dx fs) {q : Addr} {xs : List (Key × V)} (f : Str) (v : V) (h : H q = some (.dK xs)) : upd H p (.ins C dx (putF f v fs)) q = some (.dK xs) := by
  rw [upd_ne (ne_of_o h I.hp (by simp))]
  exact h
def spSi (K : PySem.W.Frag) : Sp := fun vs H Q _ => ∃ (p dx ar : Addr) (F : Hp) (r : Rl) (lg : Bool), vs = [.ref p, .ref ar, .bl lg] ∧ Same F H ∧ F p = none ∧ H p = some (.ins (He.ga K "State") dx []) ∧ SqT K F ar r.vs ∧ r.Ok ∧ ∀ H', SAt K F H' p (MSt.new r lg) → Q .non H'
theorem ok_State_init (T : Txt K mg) : C8.Mak P w K mg base 1 "State" (He.ga K "State") (spSi K) [] := by
  refine makD (K_State T) (T_State T) (D_State_init T) sc_State_init (fun _ _ _ _ _ _ us hl => match us, hl with | [_, _, _], _ => rfl) (fun vs H Q E h => ?_) (fun cdv A outer s H vs Q E hr h => ?_)
  · obtain ⟨_, _, _, _, _, _, rfl, _⟩ := h
    rfl
  · have hu := hu_of hr
    refine ⟨_, (pss_cons (ps_fld (pv 0) (pv 1) rfl)
      (pss_cons (ps_fld (pv 0) (pv 2) rfl)
      (pss_cons (ps_fld (pv 0) pe_non rfl)
      (pss_cons (ps_fld (pv 0) pe_int rfl)
      (pss_cons (ps_fld (pv 0) pe_bl rfl)
      (pss_cons (ps_fld (pv 0) pe_bl rfl)
      (pss_cons (ps_fld (pv 0) pe_bl rfl)
      (pss_cons (ps_fld (pv 0) (pe_lst pa_nil) rfl)
      (pss_cons (ps_fld (pv 0) (pe_lst pa_nil) rfl)
      (pss_cons (ps_fld (pv 0) (pe_dc (own := [("word", 3)]) rfl sc_State_init.nd (pi_tup (pe_glob (v := .ref (He.ga K "STEP_WORDS")) rfl (T_STEP_WORDS T) rfl)) (blkOk_by (own := [("word", 3)]) (N := ["self", "rules", "is_logged", "word"]) (sc := defScope s_State_init) (by decide +kernel)) (fun _ _ _ _ _ => (pg_name (i := 3) sc_State_init.nd rfl (Or.inl rfl))) (fun _ _ _ _ _ => pts_nil) (fun _ _ _ _ _ => (pv 3)) (fun _ _ _ _ _ => pe_int)) rfl)
      (pss_one (ps_fld (pv 0) (pe_lst pa_nil) rfl)))))))))))), ?_⟩
    walk_at "cx"
    obtain ⟨p, dx, ar, F, r, lg, rfl, s0, p0, hp, rl, ok, q⟩ := h
    have cS := C_State T
    have I0 : IAt K F H p (He.ga K "State") dx [] := ⟨s0, p0, hp⟩
    walk_at "rd"
    refine r_sfldI I0.hp cS (N_State_kept_rules T) (by decide : 0 < 1000) ?_
    have I1 := I0.set "kept_rules" (.ref ar)
    generalize upd _ p (.ins (He.ga K "State") _ (putF "kept_rules" _ _)) = H1 at *
    walk_at "rd"
    refine r_sfldI I1.hp cS (N_State_kept_is_logged T) (by decide : 1 < 1000) ?_
    have I2 := I1.set "kept_is_logged" (.bl lg)
    generalize upd _ p (.ins (He.ga K "State") _ (putF "kept_is_logged" _ _)) = H2 at *
    walk_at "rd"
    refine r_sfldI I2.hp cS (N_State_kept_kind T) (by decide : 2 < 1000) ?_
    have I3 := I2.set "kept_kind" .non
    generalize upd _ p (.ins (He.ga K "State") _ (putF "kept_kind" _ _)) = H3 at *
    walk_at "rd"
    refine r_sfldI I3.hp cS (N_State_kept_begin T) (by decide : 3 < 1000) ?_
    have I4 := I3.set "kept_begin" (.int 0)
    generalize upd _ p (.ins (He.ga K "State") _ (putF "kept_begin" _ _)) = H4 at *
    walk_at "rd"
    refine r_sfldI I4.hp cS (N_State_kept_is_heard T) (by decide : 4 < 1000) ?_
    have I5 := I4.set "kept_is_heard" (.bl false)
    generalize upd _ p (.ins (He.ga K "State") _ (putF "kept_is_heard" _ _)) = H5 at *
    walk_at "rd"
    refine r_sfldI I5.hp cS (N_State_kept_is_other T) (by decide : 5 < 1000) ?_
    have I6 := I5.set "kept_is_other" (.bl false)
    generalize upd _ p (.ins (He.ga K "State") _ (putF "kept_is_other" _ _)) = H6 at *
    walk_at "rd"
    refine r_sfldI I6.hp cS (N_State_kept_is_own T) (by decide : 6 < 1000) ?_
    have I7 := I6.set "kept_is_own" (.bl false)
    generalize upd _ p (.ins (He.ga K "State") _ (putF "kept_is_own" _ _)) = H7 at *
    walk_at "rd"
    rename_i Dn hDn
    have I8 := I7.ex (Same.new (o := .lst []) hDn)
    have n8 : F Dn = none := Same.free' I7.s hDn
    refine r_sfldI I8.hp cS (N_State_kept_down T) (by decide : 7 < 1000) ?_
    have I9 := I8.set "kept_down" (.ref Dn)
    have d9 := I8.oth "kept_down" (.ref Dn) (q := Dn) (xs := []) upd_same
    generalize upd _ p (.ins (He.ga K "State") _ (putF "kept_down" _ _)) = H9 at *
    walk_at "rd"
    rename_i R hR
    have I10 := I9.ex (Same.new (o := .lst []) hR)
    have n10 : F R = none := Same.free' I9.s hR
    have d10 := Same.new (o := .lst []) hR _ _ d9
    have ne1 : Dn ≠ R := ne_of_n d9 hR
    refine r_sfldI I10.hp cS (N_State_kept_runs T) (by decide : 8 < 1000) ?_
    have I11 := I10.set "kept_runs" (.ref R)
    have d11 := I10.oth "kept_runs" (.ref R) d10
    have r11 := I10.oth "kept_runs" (.ref R) (q := R) (xs := []) upd_same
    generalize upd _ p (.ins (He.ga K "State") _ (putF "kept_runs" _ _)) = H11 at *
    have hX := X_STEP_WORDS T H11
    walk_at "rd"
    refine r_dc ?_
    walk_at "rd"
    rename_i D hD
    refine dc_tup (xs := (allSw.map Sw.str).map V.str) (fun i H' => Same H11 H' ∧ H' D = some (.dK ((allSw.take i).map zc))) ⟨Same.new hD, upd_same⟩ (fun i H' _ z => Same.tup z.1 hX) (fun i x H' hx hP => ?_) (fun H' hP => ?_)
    · obtain ⟨s1, hd⟩ := hP
      rw [List.getElem?_map, List.getElem?_map] at hx
      cases ew : allSw[i]? with
      | none => rw [ew] at hx; cases hx
      | some w0 =>
        rw [ew] at hx
        obtain rfl := Option.some.inj hx
        walk_at "rd"
        refine ⟨_, .inr w0.str, rfl, hd, ?_, Same.mut s1 hD, ?_⟩
        · rw [List.length_map]
          exact Nat.lt_of_le_of_lt (List.length_take_le' _ _) (by decide)
        · rw [upd_same, zc_put i w0 ew]
    · obtain ⟨s1, hd⟩ := hP
      have hd2 : H' D = some (.dK (cntK fun _ => 0)) := hd
      walk_at "rd"
      have I12 := I11.ex s1
      have nD : F D = none := Same.free' I11.s hD
      refine r_sfldI I12.hp cS (N_State_kept_counts T) (by decide : 9 < 1000) ?_
      have I13 := I12.set "kept_counts" (.ref D)
      have d13 := I12.oth "kept_counts" (.ref D) (s1 _ _ d11)
      have r13 := I12.oth "kept_counts" (.ref D) (s1 _ _ r11)
      have c13 := I12.othD "kept_counts" (.ref D) hd2
      generalize upd _ p (.ins (He.ga K "State") _ (putF "kept_counts" _ _)) = H13 at *
      walk_at "rd"
      rename_i G hG
      have I14 := I13.ex (Same.new (o := .lst []) hG)
      have n14 : F G = none := Same.free' I13.s hG
      have d14 := Same.new (o := .lst []) hG _ _ d13
      have r14 := Same.new (o := .lst []) hG _ _ r13
      have c14 := Same.new (o := .lst []) hG _ _ c13
      have ne2 : Dn ≠ G := ne_of_n d13 hG
      have ne3 : R ≠ G := ne_of_n r13 hG
      refine r_sfldI I14.hp cS (N_State_kept_log T) (by decide : 10 < 1000) ?_
      have I15 := I14.set "kept_log" (.ref G)
      have d15 := I14.oth "kept_log" (.ref G) d14
      have r15 := I14.oth "kept_log" (.ref G) r14
      have g15 := I14.oth "kept_log" (.ref G) (q := G) (xs := []) upd_same
      have c15 := I14.othD "kept_log" (.ref G) c14
      walk_at "rd"
      exact q _ ⟨⟨dx, Dn, R, D, G, ar, [], [], .non⟩, I15.s, p0, n10, nD, n14, rl, ok, rfl, I15.hp, d15, r15, c15, g15, .nil, .nil, ne1, ne2, ne3, n8⟩
theorem u_si {H : Hp} {Q : VK} {E : XK} {p dx ar : Addr} {F : Hp} {r : Rl} {lg : Bool} (s : Same F H) (p0 : F p = none) (hp : H p = some (.ins (He.ga K "State") dx [])) (rl : SqT K F ar r.vs) (ok : r.Ok) (q : ∀ H', SAt K F H' p (MSt.new r lg) → Q .non H') : spSi K [.ref p, .ref ar, .bl lg] H Q E := ⟨p, dx, ar, F, r, lg, rfl, s, p0, hp, rl, ok, q⟩
end
end
section
section
variable {P : Program} {w : World} {K : PySem.W.Frag} {mg : Str → Option Value} {base : Heap}
/-- what state_behind wants: the clock comes to an end ahead of each event -/
def BhOk : MSt → List Ev → Prop
  | st, [] => ∃ n, FinR n st st.fin
  | st, e :: es => AdvOk 2000 e.1 st ∧ DownOk st.down ∧ (e.2.2 = true → e.2.1 ∉ st.down) ∧ (st.adv e.1).runs.length < sizeLine ∧ (st.adv e.1).log.length + 3 < sizeLine ∧ (st.adv e.1).down = st.down ∧ BhOk (st.ev e) es
theorem take_succ_ev {st : MSt} {es : List Ev} {i : Nat} {e : Ev} (h : es[i]? = some e) : st.evs (es.take (i + 1)) = (st.evs (es.take i)).ev e := by
  unfold MSt.evs
  rw [List.take_succ, h, List.foldl_append]
  rfl
def spSb (K : PySem.W.Frag) : Sp := fun vs H Q _ => ∃ (ar a : Addr) (r : Rl) (xs : List V) (es : List Ev) (lg : Bool), vs = [.ref ar, .ref a, .bl lg] ∧ SqT K H ar r.vs ∧ r.Ok ∧ SqL K H a xs ∧ Rows H evV xs es ∧ BhOk (MSt.new r lg) es ∧ ∀ p H', Same H H' → SAt K H H' p (behind r es lg) → Q (.ref p) H'
theorem ok_state_behind (T : Txt K mg) : C8.Cal P w K mg base 9 "state_behind" (spSb K) [] := by
  refine calD (D_state_behind T) (T_state_behind T) sc_state_behind (fun _ _ _ _ _ _ us hl => match us, hl with | [_, _, _], _ => rfl) (fun vs H Q E h => ?_) (fun cdv A outer s H vs Q E hr h => ?_)
  · obtain ⟨_, _, _, _, _, _, rfl, _⟩ := h
    rfl
  · have hu := hu_of hr
    refine ⟨_, (pss_cons (ps_set (i := 3) sc_state_behind.nd rfl (Or.inl rfl) (C8.pe_mk (ok_State_init T) hr (by decide) rfl (pa_cons (pv 0) (pa_cons (pv 2) pa_nil))))
      (pss_cons (ps_for PassesOwn.never rfl (pi_list (pv 1)) (pg_tup (n := 3) rfl (pgs_cons (pg_name (i := 4) sc_state_behind.nd rfl (Or.inl rfl)) (pgs_cons (pg_name (i := 5) sc_state_behind.nd rfl (Or.inl rfl)) (pgs_cons (pg_name (i := 6) sc_state_behind.nd rfl (Or.inl rfl)) pgs_nil))))
      (pss_cons (ps_expr (C8.pe_mt (ok_State_advance T) hr (by decide) (pv 3) (pa_cons (pv 4) pa_nil)))
      (pss_one (ps_expr (C8.pe_mt (ok_State_happen T) hr (by decide) (pv 3) (pa_cons (pv 4) (pa_cons (pv 5) (pa_cons (pv 6) pa_nil))))))))
      (pss_cons (ps_expr (C8.pe_mt0 (ok_State_finish T) hr (by decide) (pv 3)))
      (pss_one (ps_ret (pv 3)))))), ?_⟩
    walk_at "cx"
    obtain ⟨ar, a, r, xs, es, lg, rfl, h1, ok, h2, hR, hB, q⟩ := h
    walk_at "rd"
    intro x dx hx hdx hne
    have s1 : Same H (upd (upd H dx (.own x)) x (.ins (He.ga K "State") dx [])) := (Same.new hdx).trans (Same.new (by rw [upd_ne hne.symm]; exact hx))
    refine u_si s1 hx upd_same h1 ok fun H2 hS => ⟨rfl, ?_⟩
    have s2 := hS.choose_spec.s
    walk_at "rd"
    refine for_it walk_list (fun i σ Ha => ∃ v4 v5 v6, σ = [some (.ref ar), some (.ref a), some (.bl lg), some (.ref x), v4, v5, v6] ∧ SAt K H Ha x ((MSt.new r lg).evs (es.take i)) ∧ BhOk ((MSt.new r lg).evs (es.take i)) (es.drop i)) ⟨_, _, _, rfl, hS, hB⟩ (fun i σ Ha _ z => by obtain ⟨_, _, _, _, ⟨_, S⟩, _⟩ := z; exact S.s.seq h2) ?_ ?_
    · rintro i y σ Ha Hb hi ⟨v4, v5, v6, rfl, ⟨a1, S⟩, hB1⟩ ⟨rfl, hy⟩
      obtain ⟨ea, e, rfl, he, hea⟩ := hR.get hy
      have hea2 := S.s _ _ hea
      rw [drop_cons he] at hB1
      obtain ⟨b1, b2, b3, b4, b5, b6, b7⟩ := hB1
      obtain ⟨t, k, d⟩ := e
      walk_at "rd"
      refine u_adv S.sat b1 fun H3 ⟨a3, S3⟩ => ?_
      walk_at "rd"
      refine u_hap S3.sat (by rw [show (advGo 2000 t _).down = _ from b6]; exact b2) (by rw [show (advGo 2000 t _).down = _ from b6]; exact b3) b4 b5 fun H4 hS4 => ?_
      walk_at "rd"
      refine ⟨_, _, _, rfl, ?_, ?_⟩
      · rw [take_succ_ev he]
        exact hS4
      · rw [take_succ_ev he]
        exact b7
    · rintro σ Ha ⟨v4, v5, v6, rfl, ⟨a5, S5⟩, hB5⟩
      rw [hR.len, List.take_length, List.drop_length] at hB5
      rw [hR.len, List.take_length] at S5
      obtain ⟨n, hn⟩ := hB5
      walk_at "rd"
      refine u_fin S5.sat hn fun H6 hS6 => ?_
      walk_at "rd"
      exact q _ _ hS6.choose_spec.s hS6
theorem u_sb {H : Hp} {Q : VK} {E : XK} {ar a : Addr} {r : Rl} {xs : List V} {es : List Ev} {lg : Bool} (h1 : SqT K H ar r.vs) (ok : r.Ok) (h2 : SqL K H a xs) (hR : Rows H evV xs es) (hB : BhOk (MSt.new r lg) es) (q : ∀ p H', Same H H' → SAt K H H' p (behind r es lg) → Q (.ref p) H') : spSb K [.ref ar, .ref a, .bl lg] H Q E := ⟨ar, a, r, xs, es, lg, rfl, h1, ok, h2, hR, hB, q⟩
end
end
section

end
section

end
local macro_rules | `(tactic| walk_at "ns") => `(tactic| first
    | exact N_Moment_kept_state (by assumption)
    | exact N_Moment_kept_tick (by assumption)
    | exact N_Moment_kept_events (by assumption)
    | exact N_Moment_kept_tidy (by assumption)
    | exact N_Keyer_kept_rules (by assumption)
    | exact N_Keyer_kept_moments (by assumption)
    | exact N_Keyer_kept_calls (by assumption))
local macro_rules | `(tactic| walk_at "h0") => `(tactic| first
  | exact SqL.of (KA.hM (by assumption))
  | exact SqL.of (KA.hC (by assumption))
  | exact KA.hM (by assumption)
  | exact KA.hC (by assumption))
local macro_rules | `(tactic| walk_at "r1") => `(tactic| first
  | ((with_reducible refine' r_fldI ?e0 ?e1 ?e2 ?e3 ?_); (case e0 => exact KA.hk (by assumption)); (case e1 => exact C_Keyer (by assumption)); (case e2 => walk_at "ns"); (case e3 => rfl))
  | ((with_reducible refine' r_methI ?e0 ?e3 ?_); (case e0 => exact KA.hk (by assumption)); (case e3 => rfl))
  | ((with_reducible refine' r_fldI ?e0 ?e1 ?e2 ?e3 ?_); (case e0 => assumption); (case e1 => exact C_Moment (by assumption)); (case e2 => walk_at "ns"); (case e3 => rfl))
  | with_reducible refine r_prop ?_)

section

end
section
section
variable {P : Program} {w : World} {K : PySem.W.Frag} {mg : Str → Option Value} {base : Heap}
/-! ### runs and kinds of records -/
structure RecGood (r : Rl) (es : List Ev) : Prop where
  b : BhOk (MSt.new r false) es
  r : RunsOk (behind r es false).runs
def spAr (K : PySem.W.Frag) : Sp := fun vs H Q _ => ∃ (ar a : Addr) (r : Rl) (xs : List V) (es : List Ev), vs = [.ref ar, .ref a] ∧ SqT K H ar r.vs ∧ r.Ok ∧ SqL K H a xs ∧ Rows H evV xs es ∧ RecGood r es ∧ ∀ p ys H', Lst H H' p ys runV (behind r es false).tidy → Q (.ref p) H'
theorem ok_all_runs (T : Txt K mg) : C8.Cal P w K mg base 10 "all_runs" (spAr K) [] := by
  refine calD (D_all_runs T) (T_all_runs T) sc_all_runs (fun _ _ _ _ _ _ us hl => match us, hl with | [_, _], _ => rfl) (fun vs H Q E h => ?_) (fun cdv A outer s H vs Q E hr h => ?_)
  · obtain ⟨_, _, _, _, _, rfl, _⟩ := h
    rfl
  · have hu := hu_of hr
    refine ⟨_, (pss_one (ps_ret (C8.pe_mt0 (ok_State_tidy T) hr (by decide) (C8.pe_c (ok_state_behind T) hr (by decide) rfl (pa_cons (pv 0) (pa_cons (pv 1) (pa_cons pe_bl pa_nil))))))), ?_⟩
    walk_at "cx"
    obtain ⟨ar, a, r, xs, es, rfl, h1, ok, h2, hR, hg, q⟩ := h
    walk_at "rd"
    refine u_sb h1 ok h2 hR hg.b fun p H1 s1 ⟨a1, S1⟩ => ?_
    walk_at "rd"
    refine u_tidy S1.sat hg.r fun q1 ys H2 hL => ?_
    walk_at "rd"
    exact q _ _ _ (hL.weak s1)
theorem u_ar {H : Hp} {Q : VK} {E : XK} {ar a : Addr} {r : Rl} {xs : List V} {es : List Ev} (h1 : SqT K H ar r.vs) (ok : r.Ok) (h2 : SqL K H a xs) (hR : Rows H evV xs es) (hg : RecGood r es) (q : ∀ p ys H', Lst H H' p ys runV (behind r es false).tidy → Q (.ref p) H') : spAr K [.ref ar, .ref a] H Q E := ⟨ar, a, r, xs, es, rfl, h1, ok, h2, hR, hg, q⟩
/-- the end of a turn of a comprehension that makes a tuple -/
theorem lc_row {α β : Type} {H1 H H4 : Hp} {D t : Addr} {xs : List V} {i : Nat} {f : β → List V} {g : α → β} {l : List α} {a : α} (L : Lst H1 H D xs f ((l.take i).map g)) (hi : i < sizeLine) (ha : l[i]? = some a) (e : Same H H4) (ht : H4 t = some (.tup (f (g a)))) :
    ∃ acc, H4 D = some (.lst acc) ∧ acc.length < sizeLine ∧ ∃ ys, Lst H1 (upd H4 D (.lst (acc ++ [.ref t]))) D ys f ((l.take (i + 1)).map g) := by
  refine ⟨xs, e _ _ L.hL, ?_, xs ++ [.ref t], ?_⟩
  · rw [L.len, List.length_map, List.length_take]
    omega
  · have e2 : (l.take (i + 1)).map g = (l.take i).map g ++ [g a] := by rw [List.take_succ, ha, List.map_append]; rfl
    rw [e2]
    exact (L.ex e).push ht
theorem layGo_t1 (r : Rl) : ∀ (at_ : Int) {ks : List (Wd × Int)} {n : Int}, (∀ y ∈ ks, 1 ≤ y.2 ∧ y.2 ≤ n) → ∀ x ∈ layGo r at_ ks, 1 ≤ x.2.2 ∧ x.2.2 ≤ n
  | _, [], _, _, x, hx => by cases hx
  | at_, (w, t) :: ks, n, h, x, hx => by
    rcases List.mem_cons.mp hx with rfl | hx
    · exact h (w, t) (List.mem_cons_self ..)
    · exact layGo_t1 r _ (fun y hy => h y (List.mem_cons_of_mem _ hy)) x hx
theorem tidyRuns_t1 {r : Rl} {rs : List Run} (h : ∀ x ∈ rs, 1 ≤ x.2.2) : ∀ x ∈ tidyRuns r rs, 1 ≤ x.2.2 ∧ x.2.2 ≤ rtot rs := fun x hx => by
  rw [tidyRuns_eq] at hx
  unfold layAll at hx
  obtain ⟨g, hg, hx2⟩ := List.mem_flatMap.mp hx
  exact layGo_t1 r _ (fun y hy => grp_tot h hg hy) x hx2
/-- kinds without ticks -/
def kiOf (x : Run) : Wd × Int := (x.2.1, x.2.2)
def kindsOf (r : Rl) (es : List Ev) : List (Wd × Int) := tidyKinds ((behind r es false).tidy.map kiOf)
theorem tidy_kis {s : MSt} (h : RunsOk s.runs) : (∀ x ∈ s.tidy.map kiOf, 1 ≤ x.2) ∧ (s.tidy.map kiOf).length ≤ 1000000 := by
  refine ⟨fun x hx => ?_, ?_⟩
  · obtain ⟨y, hy, rfl⟩ := List.mem_map.mp hx
    exact (tidyRuns_t1 h.t1 y hy).1
  · rw [List.length_map]
    have h1 := tidyRuns_len (r := s.rules) h.t1
    have h2 := h.len
    show (tidyRuns s.rules s.runs).length ≤ _
    omega
def spAk (K : PySem.W.Frag) : Sp := fun vs H Q _ => ∃ (ar a : Addr) (r : Rl) (xs : List V) (es : List Ev), vs = [.ref ar, .ref a] ∧ SqT K H ar r.vs ∧ r.Ok ∧ SqL K H a xs ∧ Rows H evV xs es ∧ RecGood r es ∧ ∀ p ys H', Lst H H' p ys kiV (kindsOf r es) → Q (.ref p) H'
theorem ok_all_kinds (T : Txt K mg) : C8.Cal P w K mg base 11 "all_kinds" (spAk K) [] := by
  refine calD (D_all_kinds T) (T_all_kinds T) sc_all_kinds (fun _ _ _ _ _ _ us hl => match us, hl with | [_, _], _ => rfl) (fun vs H Q E h => ?_) (fun cdv A outer s H vs Q E hr h => ?_)
  · obtain ⟨_, _, _, _, _, rfl, _⟩ := h
    rfl
  · have hu := hu_of hr
    refine ⟨_, (pss_one (ps_ret (C8.pe_c (ok_tidy_kinds T) hr (by decide) rfl (pa_cons (pe_lc (own := [("begin", 2), ("word", 3), ("times", 4)]) rfl sc_all_kinds.nd (pi_list (C8.pe_c (ok_all_runs T) hr (by decide) rfl (pa_cons (pv 0) (pa_cons (pv 1) pa_nil)))) (blkOk_by (own := [("begin", 2), ("word", 3), ("times", 4)]) (N := ["rules", "record", "begin", "word", "times"]) (sc := defScope s_all_kinds) (by decide +kernel)) (fun _ _ _ _ _ => (pg_tupK (K := K) (n := 3) rfl rfl (pgs_cons (pg_name (i := 2) sc_all_kinds.nd rfl (Or.inl rfl)) (pgs_cons (pg_name (i := 3) sc_all_kinds.nd rfl (Or.inl rfl)) (pgs_cons (pg_name (i := 4) sc_all_kinds.nd rfl (Or.inl rfl)) pgs_nil))))) (fun _ _ _ _ _ => pts_nil) (fun _ _ _ _ _ => (pe_tup (pa_cons (pv 3) (pa_cons (pv 4) pa_nil))))) pa_nil)))), ?_⟩
    walk_at "cx"
    obtain ⟨ar, a, r, xs, es, rfl, h1, ok, h2, hR, hg, q⟩ := h
    have hk := tidy_kis hg.r
    walk_at "rd"
    refine u_ar h1 ok h2 hR hg fun p ys H1 hL => ?_
    walk_at "rd"
    rename_i D hD
    refine lc_it walk_list (fun i H' => ∃ zs, Lst H1 H' D zs kiV (((behind r es false).tidy.take i).map kiOf)) ⟨[], Lst.fresh (Same.refl _) hD⟩ (fun _ _ _ z => by obtain ⟨_, z⟩ := z; exact SqL.of (z.s _ _ hL.hL)) (fun i y Ha Hb hi hs hy => ?_) (fun Ha hs => ?_)
    · obtain ⟨zs, L1⟩ := hs
      obtain ⟨rfl, hc⟩ := hy
      obtain ⟨ea, x, rfl, hx, hea⟩ := hL.hR.get hc
      have hea2 := L1.s _ _ hea
      have hi2 : i < sizeLine := by
        have h3 := hk.2
        rw [List.length_map] at h3
        have h4 := (List.getElem?_eq_some_iff.mp hx).1
        exact Nat.lt_of_lt_of_le (show i < 1000000 by omega) (by decide)
      obtain ⟨b, wd, n⟩ := x
      walk_at "rd"
      rename_i t ht
      exact lc_row L1 hi2 hx (Same.new ht) upd_same
    · obtain ⟨zs, L1⟩ := hs
      rw [hL.len, List.take_length] at L1
      walk_at "rd"
      refine u_tk (SqL.of L1.hL) L1.hR hk.1 hk.2 fun p2 ys2 H2 hL2 => ?_
      walk_at "rd"
      exact q _ _ _ (hL2.weak (hL.s.trans L1.s))
theorem u_ak {H : Hp} {Q : VK} {E : XK} {ar a : Addr} {r : Rl} {xs : List V} {es : List Ev} (h1 : SqT K H ar r.vs) (ok : r.Ok) (h2 : SqL K H a xs) (hR : Rows H evV xs es) (hg : RecGood r es) (q : ∀ p ys H', Lst H H' p ys kiV (kindsOf r es) → Q (.ref p) H') : spAk K [.ref ar, .ref a] H Q E := ⟨ar, a, r, xs, es, rfl, h1, ok, h2, hR, hg, q⟩
def spKo (K : PySem.W.Frag) : Sp := fun vs H Q _ => ∃ (ar a : Addr) (r : Rl) (xs : List V) (es : List Ev), vs = [.ref ar, .ref a] ∧ SqT K H ar r.vs ∧ r.Ok ∧ SqL K H a xs ∧ Rows H evV xs es ∧ RecOk es ∧ RecGood r es ∧ ∀ p ys H', Lst H H' p ys kiV (kindsOf r es) → Q (.ref p) H'
theorem ok_kinds_of (T : Txt K mg) : C8.Cal P w K mg base 12 "kinds_of" (spKo K) [] := by
  refine calD (D_kinds_of T) (T_kinds_of T) sc_kinds_of (fun _ _ _ _ _ _ us hl => match us, hl with | [_, _], _ => rfl) (fun vs H Q E h => ?_) (fun cdv A outer s H vs Q E hr h => ?_)
  · obtain ⟨_, _, _, _, _, rfl, _⟩ := h
    rfl
  · have hu := hu_of hr
    refine ⟨_, (pss_cons (ps_expr (C8.pe_c (ok_require_rules T) hr (by decide) rfl (pa_cons (pv 0) pa_nil)))
      (pss_cons (ps_expr (C8.pe_c (ok_require_record T) hr (by decide) rfl (pa_cons (pv 1) pa_nil)))
      (pss_one (ps_ret (C8.pe_c (ok_all_kinds T) hr (by decide) rfl (pa_cons (pv 0) (pa_cons (pv 1) pa_nil))))))), ?_⟩
    walk_at "cx"
    obtain ⟨ar, a, r, xs, es, rfl, h1, ok, h2, hR, ho, hg, q⟩ := h
    walk_at "rd"
    refine u_reqR h1 ok fun H1 s1 => ?_
    walk_at "rd"
    refine u_reqRec (s1.seq h2) (hR.ex s1) ho fun H2 s2 => ?_
    walk_at "rd"
    have s3 := s1.trans s2
    refine u_ak (Same.tup s3 h1) ok (s3.seq h2) (hR.ex s3) hg fun p ys H' hL => ?_
    walk_at "rd"
    exact q _ _ _ (hL.weak s3)
theorem u_ko {H : Hp} {Q : VK} {E : XK} {ar a : Addr} {r : Rl} {xs : List V} {es : List Ev} (h1 : SqT K H ar r.vs) (ok : r.Ok) (h2 : SqL K H a xs) (hR : Rows H evV xs es) (ho : RecOk es) (hg : RecGood r es) (q : ∀ p ys H', Lst H H' p ys kiV (kindsOf r es) → Q (.ref p) H') : spKo K [.ref ar, .ref a] H Q E := ⟨ar, a, r, xs, es, rfl, h1, ok, h2, hR, ho, hg, q⟩
end
end
section

end
section
/-! ### records of a moderate size are good -/
theorem press_mem {k x : Kd} {d : List Kd} : x ∈ pressDown k d ↔ x ∈ d ∨ x = k := by
  unfold pressDown
  split
  · simp
  · simp [or_comm]
theorem bh_good : ∀ (es : List Ev) (s : MSt) (c : Nat) (last : Option Int) (d : List Kd), Good c s → (∀ e ∈ es, Tk e.1) → recGo last d es = true → (∀ k, k ∈ s.down ↔ k ∈ d) → c + 2 * es.length ≤ 4000 → BhOk s es ∧ RunsOk (s.evs es).fin.runs ∧ (s.evs es).fin.runs.length ≤ 20 * (c + 2 * es.length) + 20 ∧ (s.evs es).fin.rules = s.rules
  | [], s, c, last, d, hg, _, hr, hd, hc => by
    have hd0 : s.down = [] := by
      have h1 : d.isEmpty = true := hr
      have h2 : d = [] := List.isEmpty_iff.mp h1
      refine List.eq_nil_iff_forall_not_mem.mpr fun k hk => ?_
      have := (hd k).mp hk
      rw [h2] at this
      cases this
    obtain ⟨a, b, f⟩ := good_fin hg (by simpa using hc) hd0
    obtain ⟨e, r1, r2, _⟩ := f.r
    refine ⟨⟨_, a⟩, b, ?_, f.kp.rl⟩
    show s.fin.runs.length ≤ _
    rw [r1, List.length_append]
    have := hg.rl
    simp only [List.length_nil]
    omega
  | e :: es, s, c, last, d, hg, ht, hr, hd, hc => by
    have hc2 : c + 2 * (es.length + 1) ≤ 4000 := hc
    have hte := ht e (List.mem_cons_self ..)
    obtain ⟨a, g, k⟩ := adv_good hg hte (by omega)
    unfold recGo at hr
    simp only [Bool.and_eq_true] at hr
    obtain ⟨⟨_, h1⟩, h2⟩ := hr
    have hmem : decide (e.2.1 ∈ s.down) = decide (e.2.1 ∈ d) := by simp [hd]
    have hp : e.2.2 = true → e.2.1 ∉ s.down := fun h z => by
      rw [h] at h1
      have := (hd _).mp z
      simp [this] at h1
    have gh := hap_good g hte (k := e.2.1) (dn := e.2.2) fun h => by rw [k.d]; exact hp h
    have hf := hap_f (s.adv e.1) e.1 e.2.1 e.2.2
    have e4 : sizeLine = 16777216 := rfl
    have ih := bh_good es (s.ev e) (c + 1 + 1) (some e.1) _ gh (fun x hx => ht x (List.mem_cons_of_mem _ hx)) h2 (fun x => by
      show x ∈ ((s.adv e.1).happen e.1 e.2.1 e.2.2).down ↔ _
      rw [hf.d, k.d]
      cases e.2.2 with
      | true => simp [press_mem, hd]
      | false => simp [hd]) (by omega)
    obtain ⟨i1, i2, i3, i4⟩ := ih
    have rl := g.rl
    refine ⟨⟨a, hg.dn, hp, by omega, by rw [g.ln]; simp [e4], k.d, i1⟩, i2, ?_, ?_⟩
    · show ((s.ev e).evs es).fin.runs.length ≤ _
      rw [List.length_cons]
      omega
    · show ((s.ev e).evs es).fin.rules = _
      rw [i4]
      show ((s.adv e.1).happen e.1 e.2.1 e.2.2).rules = _
      rw [hf.rl, k.rl]
theorem rec_good {r : Rl} {es : List Ev} (ok : r.Ok) (h : RecOk es) (ht : ∀ e ∈ es, Tk e.1) : RecGood r es ∧ (behind r es false).runs.length ≤ 9000 ∧ (behind r es false).rules = r := by
  have hl := h.2
  obtain ⟨a, b, c, d⟩ := bh_good es (MSt.new r false) 0 none [] (new_good ok) ht h.1 (fun k => Iff.rfl) (by omega)
  exact ⟨⟨a, b⟩, Nat.le_trans c (by omega), d⟩
end
local macro_rules | `(tactic| walk_at "r1") => `(tactic| first
  | ((with_reducible refine' r_slX ?e0 ?_); (case e0 => assumption))
  | with_reducible refine r_strMem ?_
  | with_reducible refine r_jn ?_
  | with_reducible refine r_jc ?_
  | with_reducible refine r_fS ?_
  | ((with_reducible refine' r_fStr ?e0 ?_); (case e0 => assumption))
  | ((with_reducible refine' r_fInt ?e0 ?_); (case e0 => assumption))
  | ((with_reducible refine' r_strAi ?e0 ?_); (case e0 => assumption))
  | with_reducible refine r_strAs ?_)

section
section
variable {P : Program} {w : World} {K : PySem.W.Frag} {mg : Str → Option Value} {base : Heap}
/-! ### marks of runs -/
theorem wd_slen (x : Wd) : x.str.length = x.ks.length := wd_size x
theorem wd_le : ∀ x : Wd, 1 ≤ x.ks.length ∧ x.ks.length ≤ 2
  | .one _ => ⟨Nat.le_refl 1, (by decide : 1 ≤ 2)⟩
  | .two _ => ⟨(by decide : 1 ≤ 2), Nat.le_refl 2⟩
theorem wd_szl (x : Wd) : x.str.length ≤ sizeLine := by rw [wd_slen]; exact wd_len x
theorem sum_map_int {α : Type} {f : α → Int} (l : List α) : (l.map fun y => V.int (f y)) = (l.map f).map V.int := by rw [List.map_map]; rfl
theorem tot_sum : ∀ ks : List (Wd × Int), (ks.map fun y => (y.1.ks.length : Int) * y.2).sum = tot ks
  | [] => rfl
  | x :: ks => by rw [List.map_cons, List.sum_cons, tot_sum ks]; rfl
def spMm (K : PySem.W.Frag) : Sp := fun vs H Q _ => ∃ (a : Addr) (xs : List V) (ks : List (Wd × Int)), vs = [.ref a] ∧ SqL K H a xs ∧ Rows H kiV xs ks ∧ ks.length < sizeLine ∧ ∀ H', Same H H' → Q (.int (tot ks)) H'
theorem ok_many_marks (T : Txt K mg) : C8.Cal P w K mg base 1 "many_marks" (spMm K) [] := by
  refine calD (D_many_marks T) (T_many_marks T) sc_many_marks (fun _ _ _ _ _ _ us hl => match us, hl with | [_], _ => rfl) (fun vs H Q E h => ?_) (fun cdv A outer s H vs Q E hr h => ?_)
  · obtain ⟨_, _, _, rfl, _⟩ := h
    rfl
  · have hu := hu_of hr
    refine ⟨_, (pss_one (ps_ret (pe_callB (cr_sum rfl) (by rfl) (T_sum T) (by decide +kernel) (pa_cons (pe_lc (own := [("word", 1), ("times", 2)]) rfl sc_many_marks.nd (pi_list (pv 0)) (blkOk_by (own := [("word", 1), ("times", 2)]) (N := ["kinds", "word", "times"]) (sc := defScope s_many_marks) (by decide +kernel)) (fun _ _ _ _ _ => (pg_tupK (K := K) (n := 2) rfl rfl (pgs_cons (pg_name (i := 1) sc_many_marks.nd rfl (Or.inl rfl)) (pgs_cons (pg_name (i := 2) sc_many_marks.nd rfl (Or.inl rfl)) pgs_nil)))) (fun _ _ _ _ _ => pts_nil) (fun _ _ _ _ _ => (pe_op op_mul (pe_callB cq_lenZ (by rfl) (T_len T) PySem.boot_len (pa_cons (pv 1) pa_nil)) (pv 2)))) pa_nil)))), ?_⟩
    walk_at "cx"
    obtain ⟨a, xs, ks, rfl, h1, hR, hl, q⟩ := h
    walk_at "rd"
    rename_i D hD
    refine lc_it walk_list (fun i H' => Same H H' ∧ H' D = some (.lst ((ks.take i).map fun y => V.int (y.1.ks.length * y.2)))) ⟨Same.new hD, upd_same⟩ (fun _ _ _ z => z.1.seq h1) (fun i y Ha Hb hi hs hy => ?_) (fun Ha hs => ?_)
    · obtain ⟨s1, hd⟩ := hs
      obtain ⟨rfl, hc⟩ := hy
      obtain ⟨ea, x, rfl, hx, hea⟩ := hR.get hc
      have hea2 := s1 _ _ hea
      have hi2 : i < ks.length := (List.getElem?_eq_some_iff.mp hx).1
      have hwl := wd_szl x.1
      have hw2 := wd_le x.1
      walk_at "rd"
      refine r_I (.inl ?_) ?_
      · rw [wd_slen]
        omega
      refine ⟨_, hd, ?_, Same.mut s1 hD, ?_⟩
      · rw [List.length_map, List.length_take]
        omega
      · rw [upd_same, List.take_succ, hx, List.map_append, wd_slen]
        rfl
    · obtain ⟨s1, hd⟩ := hs
      rw [hR.len, List.take_length, sum_map_int] at hd
      walk_at "rd"
      refine r_sum (SqL.of hd) ?_
      rw [tot_sum]
      exact q _ s1
theorem u_mm {H : Hp} {Q : VK} {E : XK} {a : Addr} {xs : List V} {ks : List (Wd × Int)} (h1 : SqL K H a xs) (hR : Rows H kiV xs ks) (hl : ks.length < sizeLine) (q : ∀ H', Same H H' → Q (.int (tot ks)) H') : spMm K [.ref a] H Q E := ⟨a, xs, ks, rfl, h1, hR, hl, q⟩
def kcode : Kd → Nat
  | .s => 115
  | .l => 108
theorem kd_code : ∀ k : Kd, (⟨#[kcode k]⟩ : Str) = k.str
  | .s => by decide +kernel
  | .l => by decide +kernel
/-- a mark of a run by its number -/
def markV (r : Rl) (x : Run × Nat) : List V := [.int (markB r x.1 x.2), .int (markE r x.1 x.2), kv (markK x.1 x.2)]
theorem wd_str_cases (x : Wd) : ∃ k, (x = .one k ∧ x.str = k.str) ∨ (x = .two k ∧ x.str = k.str ++ k.ot.str) := by
  rcases x with k | k
  · exact ⟨k, .inl ⟨rfl, by cases k <;> rfl⟩⟩
  · exact ⟨k, .inr ⟨rfl, by cases k <;> decide +kernel⟩⟩
theorem wd_cut1 (k : Kd) (x : Wd) : Txt.slice (Wd.one k).str none (some 0) = Str.empty ∧ Txt.slice (Wd.two k).str none (some 0) = Str.empty ∧ Txt.slice (Wd.two k).str none (some 1) = k.str := by cases k <;> decide +kernel
theorem wd_ix (k : Kd) : (∃ c, atI (Wd.one k).str.cps.toList 0 = some c ∧ (⟨#[c]⟩ : Str) = k.str) ∧ (∃ c, atI (Wd.two k).str.cps.toList 0 = some c ∧ (⟨#[c]⟩ : Str) = k.str) ∧ ∃ c, atI (Wd.two k).str.cps.toList 1 = some c ∧ (⟨#[c]⟩ : Str) = k.ot.str := by
  cases k
  · exact ⟨⟨115, by decide +kernel, by decide +kernel⟩, ⟨115, by decide +kernel, by decide +kernel⟩, ⟨108, by decide +kernel, by decide +kernel⟩⟩
  · exact ⟨⟨108, by decide +kernel, by decide +kernel⟩, ⟨108, by decide +kernel, by decide +kernel⟩, ⟨115, by decide +kernel, by decide +kernel⟩⟩
/-- what the slice and the item of a word are at a number -/
theorem wd_parts (r : Rl) (x : Run) (i : Nat) : ∃ (z : List Kd) (c : Nat), Txt.slice x.2.1.str none (some ((i : Int) % (x.2.1.ks.length : Int))) = ⟨(z.map kcode).toArray⟩ ∧ z.length ≤ 2 ∧
    atI x.2.1.str.cps.toList ((i : Int) % (x.2.1.ks.length : Int)) = some c ∧ (⟨#[c]⟩ : Str) = (markK x i).str ∧ x.1 + (i : Int) / (x.2.1.ks.length : Int) * x.2.1.per r + (z.map r.per).sum = markB r x i := by
  obtain ⟨b, wd, t⟩ := x
  cases wd with
  | one k =>
    obtain ⟨⟨c, h1, h2⟩, _⟩ := wd_ix k
    have e1 : ((i : Int) % ((Wd.one k).ks.length : Int)) = 0 := Int.emod_one _
    have e2 : ((i : Int) / ((Wd.one k).ks.length : Int)) = i := Int.ediv_one _
    refine ⟨[], c, ?_, Nat.zero_le 2, ?_, h2, ?_⟩
    · show Txt.slice (Wd.one k).str none (some ((i : Int) % ((Wd.one k).ks.length : Int))) = _
      rw [e1, (wd_cut1 k (.one k)).1]
      rfl
    · show atI (Wd.one k).str.cps.toList ((i : Int) % ((Wd.one k).ks.length : Int)) = _
      rw [e1]
      exact h1
    · show b + (i : Int) / ((Wd.one k).ks.length : Int) * (Wd.one k).per r + 0 = b + (i : Int) * r.per k
      rw [e2, Int.add_zero]
      show b + (i : Int) * (r.per k + 0) = _
      rw [Int.add_zero]
  | two k =>
    obtain ⟨_, ⟨c, h1, h2⟩, ⟨c', h1', h2'⟩⟩ := wd_ix k
    have e2 : ((i : Int) / ((Wd.two k).ks.length : Int)) = ((i / 2 : Nat) : Int) := by show (i : Int) / 2 = _; omega
    by_cases hi : i % 2 = 0
    · have e1 : ((i : Int) % ((Wd.two k).ks.length : Int)) = 0 := by show (i : Int) % 2 = 0; omega
      refine ⟨[], c, ?_, Nat.zero_le 2, ?_, ?_, ?_⟩
      · show Txt.slice (Wd.two k).str none (some ((i : Int) % ((Wd.two k).ks.length : Int))) = _
        rw [e1, (wd_cut1 k (.one k)).2.1]
        rfl
      · show atI (Wd.two k).str.cps.toList ((i : Int) % ((Wd.two k).ks.length : Int)) = _
        rw [e1]
        exact h1
      · rw [h2]
        show _ = Kd.str (if i % 2 = 0 then k else k.ot)
        rw [if_pos hi]
      · show b + (i : Int) / ((Wd.two k).ks.length : Int) * (Wd.two k).per r + 0 = b + ((i / 2 : Nat) : Int) * (Wd.two k).per r + ((i % 2 : Nat) : Int) * r.per k
        rw [e2, hi]
        simp
    · have e1 : ((i : Int) % ((Wd.two k).ks.length : Int)) = 1 := by show (i : Int) % 2 = 1; omega
      have e3 : i % 2 = 1 := by omega
      refine ⟨[k], c', ?_, (by decide : 1 ≤ 2), ?_, ?_, ?_⟩
      · show Txt.slice (Wd.two k).str none (some ((i : Int) % ((Wd.two k).ks.length : Int))) = _
        rw [e1, (wd_cut1 k (.one k)).2.2]
        cases k <;> decide +kernel
      · show atI (Wd.two k).str.cps.toList ((i : Int) % ((Wd.two k).ks.length : Int)) = _
        rw [e1]
        exact h1'
      · rw [h2']
        show _ = Kd.str (if i % 2 = 0 then k else k.ot)
        rw [if_neg hi]
      · show b + (i : Int) / ((Wd.two k).ks.length : Int) * (Wd.two k).per r + (r.per k + 0) = b + ((i / 2 : Nat) : Int) * (Wd.two k).per r + ((i % 2 : Nat) : Int) * r.per k
        rw [e2, e3]
        simp
def spMof (K : PySem.W.Frag) : Sp := fun vs H Q _ => ∃ (ar a : Addr) (r : Rl) (x : Run) (i : Nat), vs = [.ref ar, .ref a, .int i] ∧ SqT K H ar r.vs ∧ r.Ok ∧ SqT K H a (runV x) ∧ i < 2 ^ 900 ∧ ∀ p H', Same H H' → H p = none → H' p = some (.tup (markV r (x, i))) → Q (.ref p) H'
theorem ok_mark_of (T : Txt K mg) : C8.Cal P w K mg base 4 "mark_of" (spMof K) [] := by
  refine calD (D_mark_of T) (T_mark_of T) sc_mark_of (fun _ _ _ _ _ _ us hl => match us, hl with | [_, _, _], _ => rfl) (fun vs H Q E h => ?_) (fun cdv A outer s H vs Q E hr h => ?_)
  · obtain ⟨_, _, _, _, _, rfl, _⟩ := h
    rfl
  · have hu := hu_of hr
    refine ⟨_, (pss_cons (ps_asg (pv 1) (pg_tup (n := 3) rfl (pgs_cons (pg_name (i := 3) sc_mark_of.nd rfl (Or.inl rfl)) (pgs_cons (pg_name (i := 4) sc_mark_of.nd rfl (Or.inl rfl)) (pgs_cons (pg_name (i := 5) sc_mark_of.nd rfl (Or.inl rfl)) pgs_nil)))))
      (pss_cons (ps_set (i := 6) sc_mark_of.nd rfl (Or.inl rfl) (pe_op op_add (pv 3) (pe_op op_mulW (pe_op op_fdivW (pv 2) (pe_callB cq_lenZ (by rfl) (T_len T) PySem.boot_len (pa_cons (pv 4) pa_nil))) (C8.pe_c (ok_word_period T) hr (by decide) rfl (pa_cons (pv 0) (pa_cons (pv 4) pa_nil))))))
      (pss_cons (ps_for PassesOwn.never rfl (pi_str (pe_slice C8.sl_txt (pv 4) po_none (po_some (pe_op op_mod (pv 2) (pe_callB cq_lenZ (by rfl) (T_len T) PySem.boot_len (pa_cons (pv 4) pa_nil)))))) (pg_name (i := 7) sc_mark_of.nd rfl (Or.inl rfl))
      (pss_one (ps_aug (i := 6) sc_mark_of.nd rfl (Or.inl rfl) (C8.pe_c (ok_period_of T) hr (by decide) rfl (pa_cons (pv 0) (pa_cons (pv 7) pa_nil))) ip_add)))
      (pss_cons (ps_set (i := 7) sc_mark_of.nd rfl (Or.inl rfl) (pe_ix ix_str (pv 4) (pe_op op_mod (pv 2) (pe_callB cq_lenZ (by rfl) (T_len T) PySem.boot_len (pa_cons (pv 4) pa_nil))) (fun _ _ => rfl)))
      (pss_one (ps_ret (pe_tup (pa_cons (pv 6) (pa_cons (pe_op op_add (pv 6) (C8.pe_c (ok_length_of T) hr (by decide) rfl (pa_cons (pv 0) (pa_cons (pv 7) pa_nil)))) (pa_cons (pv 7) pa_nil)))))))))), ?_⟩
    walk_at "cx"
    obtain ⟨ar, a, r, x, i, rfl, h1, ok, h2, hi, q⟩ := h
    obtain ⟨z, c, hz, hz2, hc, hck, hB⟩ := wd_parts r x i
    have hpz := Wd.per_sz ok x.2.1
    have hwl := wd_szl x.2.1
    have hw2 := wd_le x.2.1
    have hdp : (0 : Int) < x.2.1.ks.length := by omega
    walk_at "rd"
    rw [wd_slen]
    refine r_I (wide_div (b := 2) hdp (by omega) (by decide) (by decide)) ?_
    walk_at "rd"
    refine u_wp (Same.tup (Same.refl _) h1) fun H1 s1 => ?_
    refine r_I (wide_mul (a := 900) (b := 302) ?_ (abs_of (show 0 ≤ x.2.1.per r by omega) hpz.2) (by decide) (by decide) (by decide)) ?_
    · have e0 := Int.ediv_le_self (a := (i : Int)) (x.2.1.ks.length : Int) (by omega)
      have e1 := Int.ediv_nonneg (show (0 : Int) ≤ i by omega) (show (0 : Int) ≤ x.2.1.ks.length by omega)
      omega
    walk_at "rd"
    rw [wd_slen]
    refine r_I hdp ?_
    walk_at "rd"
    rw [hz]
    refine for_it walk_str (fun j σ Hb => ∃ (v7 : Option V) (B : Int), σ = [some (.ref ar), some (.ref a), some (.int i), some (.int x.1), some (.str x.2.1.str), some (.int x.2.2), some (.int B), v7] ∧ B = x.1 + (i : Int) / (x.2.1.ks.length : Int) * x.2.1.per r + ((z.take j).map r.per).sum ∧ Hb = H1) ⟨_, _, rfl, (Int.add_zero _).symm, rfl⟩ (fun _ _ _ _ _ => trivial) ?_ ?_
    · rintro j y σ Ha Hb hj ⟨v7, B, rfl, hBj, rfl⟩ ⟨rfl, c2, hc2, rfl⟩
      simp only [List.getElem?_toArray, List.getElem?_map] at hc2
      obtain ⟨k, hk, rfl⟩ := Option.map_eq_some_iff.mp hc2
      rw [kd_code k]
      have h3 := Same.tup s1 h1
      walk_at "rd"
      refine ⟨_, _, rfl, ?_, rfl⟩
      rw [List.take_succ, hk, List.map_append, List.sum_append, hBj]
      simp [Int.add_assoc]
    · rintro σ Ha ⟨v7, B, rfl, hBj, rfl⟩
      have hsz : ({ cps := (z.map kcode).toArray } : Str).cps.size = z.length := by simp
      rw [hsz, List.take_length, hB] at hBj
      subst hBj
      walk_at "rd"
      rw [wd_slen]
      refine r_I hdp ?_
      refine r_ixSE hwl hc ?_
      rw [hck]
      have h3 := Same.tup s1 h1
      walk_at "rd"
      rename_i p hp
      exact q _ _ (s1.trans (Same.new hp)) (Same.free' s1 hp) upd_same
theorem u_mof {H : Hp} {Q : VK} {E : XK} {ar a : Addr} {r : Rl} {x : Run} {i : Nat} (h1 : SqT K H ar r.vs) (ok : r.Ok) (h2 : SqT K H a (runV x)) (hi : i < 2 ^ 900) (q : ∀ p H', Same H H' → H p = none → H' p = some (.tup (markV r (x, i))) → Q (.ref p) H') : spMof K [.ref ar, .ref a, .int i] H Q E := ⟨ar, a, r, x, i, rfl, h1, ok, h2, hi, q⟩
end
end
section
/-! ### records event by event -/
def stepDn (d : List Kd) (e : Ev) : List Kd := if e.2.2 then d ++ [e.2.1] else d.filter fun o => decide (o ≠ e.2.1)
def okEv (last : Option Int) (d : List Kd) (e : Ev) : Bool := (match last with | none => true | some t => decide (t ≤ e.1)) && (e.2.2 != decide (e.2.1 ∈ d))
def recSt : Option Int → List Kd → List Ev → Option (Option Int × List Kd)
  | last, d, [] => some (last, d)
  | last, d, e :: es => if okEv last d e = true then recSt (some e.1) (stepDn d e) es else none
theorem recSt_cons (last : Option Int) (d : List Kd) (e : Ev) (es : List Ev) : recSt last d (e :: es) = if okEv last d e = true then recSt (some e.1) (stepDn d e) es else none := rfl
theorem recGo_cons (last : Option Int) (d : List Kd) (e : Ev) (es : List Ev) : recGo last d (e :: es) = (okEv last d e && recGo (some e.1) (stepDn d e) es) := rfl
theorem recGo_st : ∀ {es : List Ev} {last : Option Int} {d : List Kd}, recGo last d es = true ↔ ∃ l, recSt last d es = some (l, [])
  | [], last, d => by
    show d.isEmpty = true ↔ ∃ l, some (last, d) = some (l, [])
    constructor
    · intro h
      exact ⟨last, by rw [List.isEmpty_iff.mp h]⟩
    · rintro ⟨l, h⟩
      cases h
      rfl
  | e :: es, last, d => by
    rw [recGo_cons, recSt_cons, Bool.and_eq_true]
    by_cases h : okEv last d e = true
    · rw [if_pos h]
      have ih := recGo_st (es := es) (last := some e.1) (d := stepDn d e)
      constructor
      · rintro ⟨_, h2⟩
        exact ih.mp h2
      · intro h2
        exact ⟨h, ih.mpr h2⟩
    · rw [if_neg h]
      constructor
      · rintro ⟨h2, _⟩
        exact absurd h2 h
      · rintro ⟨l, h2⟩
        cases h2
theorem recSt_app : ∀ {a b : List Ev} {last : Option Int} {d : List Kd}, recSt last d (a ++ b) = (recSt last d a).bind fun z => recSt z.1 z.2 b
  | [], b, last, d => rfl
  | e :: a, b, last, d => by
    rw [List.cons_append, recSt_cons, recSt_cons]
    by_cases h : okEv last d e = true
    · rw [if_pos h, if_pos h]
      exact recSt_app
    · rw [if_neg h, if_neg h]
      rfl
theorem recSt_snoc {es : List Ev} {last l : Option Int} {d dn : List Kd} {t : Int} {k : Kd} {b : Bool} (h : recSt last d es = some (l, dn)) (ht : ∀ t0, l = some t0 → t0 ≤ t) (hb : b = !decide (k ∈ dn)) : recSt last d (es ++ [(t, k, b)]) = some (some t, stepDn dn (t, k, b)) := by
  rw [recSt_app, h]
  show recSt l dn [(t, k, b)] = _
  rw [recSt_cons, if_pos]
  · rfl
  · unfold okEv
    rw [Bool.and_eq_true]
    refine ⟨?_, ?_⟩
    · cases l with
      | none => rfl
      | some t0 => exact decide_eq_true (ht t0 rfl)
    · show (b != decide (k ∈ dn)) = true
      rw [hb]
      cases decide (k ∈ dn) <;> rfl
theorem recSt_pre {a b : List Ev} {last : Option Int} {d : List Kd} {z : Option Int × List Kd} (h : recSt last d (a ++ b) = some z) : ∃ l dn, recSt last d a = some (l, dn) ∧ recSt l dn b = some z := by
  rw [recSt_app] at h
  cases e : recSt last d a with
  | none => rw [e] at h; cases h
  | some y => rw [e] at h; exact ⟨y.1, y.2, rfl, h⟩
theorem recSt_one {t : Int} {k : Kd} {b : Bool} {l : Option Int} {dn : List Kd} {es : List Ev} {z : Option Int × List Kd} (h : recSt l dn ((t, k, b) :: es) = some z) : (∀ t0, l = some t0 → t0 ≤ t) ∧ b = !decide (k ∈ dn) ∧ recSt (some t) (stepDn dn (t, k, b)) es = some z := by
  rw [recSt_cons] at h
  by_cases hc : okEv l dn (t, k, b) = true
  · rw [if_pos hc] at h
    unfold okEv at hc
    rw [Bool.and_eq_true] at hc
    refine ⟨fun t0 e => ?_, ?_, h⟩
    · have h1 := hc.1
      rw [e] at h1
      exact of_decide_eq_true h1
    · have h2 : (b != decide (k ∈ dn)) = true := hc.2
      cases b <;> cases e : decide (k ∈ dn) <;> rw [e] at h2 <;> first | rfl | cases h2
  · rw [if_neg hc] at h
    cases h
theorem stepDn_mem {d : List Kd} {e : Ev} (x : Kd) : x ∈ stepDn d e ↔ if e.2.2 then x ∈ d ∨ x = e.2.1 else x ∈ d ∧ x ≠ e.2.1 := by
  unfold stepDn
  cases e.2.2 <;> simp
theorem stepDn_nodup {d : List Kd} {t : Int} {k : Kd} {b : Bool} (h : d.Nodup) (hb : b = !decide (k ∈ d)) : (stepDn d (t, k, b)).Nodup := by
  unfold stepDn
  cases b with
  | true =>
    have hk : k ∉ d := by simpa using hb
    show (d ++ [k]).Nodup
    rw [List.nodup_append]
    refine ⟨h, by simp, fun a ha c hc e => ?_⟩
    rw [List.mem_singleton.mp hc] at e
    exact hk (e ▸ ha)
  | false => exact List.Pairwise.filter _ h
theorem recSt_nodup : ∀ {es : List Ev} {last l : Option Int} {d dn : List Kd}, d.Nodup → recSt last d es = some (l, dn) → dn.Nodup
  | [], last, l, d, dn, h, e => by
    cases e
    exact h
  | (t, k, b) :: es, last, l, d, dn, h, e => by
    obtain ⟨_, hb, h2⟩ := recSt_one e
    exact recSt_nodup (stepDn_nodup h hb) h2
/-- the sequence of levers as a list that drops a lever and puts it behind -/
theorem stepDn_py {d : List Kd} {t : Int} {k : Kd} {b : Bool} (hb : b = !decide (k ∈ d)) : stepDn d (t, k, b) = (d.filter fun o => decide (o ≠ k)) ++ (if b then [k] else []) := by
  unfold stepDn
  cases b with
  | true =>
    have hk : k ∉ d := by simpa using hb
    show d ++ [k] = d.filter (fun o => decide (o ≠ k)) ++ [k]
    rw [List.filter_eq_self.mpr fun o ho => decide_eq_true (show o ≠ k from fun e => hk (e ▸ ho))]
  | false =>
    show d.filter (fun o => decide (o ≠ k)) = d.filter (fun o => decide (o ≠ k)) ++ []
    rw [List.append_nil]
theorem recSt_rel {t : Int} : ∀ {dn : List Kd} {l : Option Int}, dn.Nodup → (∀ t0, l = some t0 → t0 ≤ t) → ∃ l', recSt l dn (dn.map fun k => (t, k, false)) = some (l', [])
  | [], l, _, _ => ⟨l, rfl⟩
  | k :: dn, l, h, ht => by
    have hk := List.nodup_cons.mp h
    have e : recSt l (k :: dn) [(t, k, false)] = some (some t, stepDn (k :: dn) (t, k, false)) := recSt_snoc (es := []) rfl ht (by simp)
    have e2 : stepDn (k :: dn) (t, k, false) = dn := by
      show (k :: dn).filter (fun o => decide (o ≠ k)) = dn
      rw [List.filter_cons_of_neg (by simp), List.filter_eq_self.mpr fun o ho => decide_eq_true (show o ≠ k from fun e => hk.1 (e ▸ ho))]
    obtain ⟨l', h2⟩ := recSt_rel (t := t) (dn := dn) (l := some t) hk.2 (fun t0 e => by cases e; exact Int.le_refl _)
    refine ⟨l', ?_⟩
    show recSt l (k :: dn) ([(t, k, false)] ++ dn.map fun k => (t, k, false)) = _
    rw [recSt_app, e]
    show recSt (some t) (stepDn (k :: dn) (t, k, false)) _ = _
    rw [e2]
    exact h2
/-- the closed record -/
def relAt (t : Int) (dn : List Kd) : List Ev := dn.map fun k => (t, k, false)
theorem closed_ok {es : List Ev} {l : Option Int} {dn : List Kd} {t : Int} (h : recSt none [] es = some (l, dn)) (ht : ∀ t0, l = some t0 → t0 ≤ t) (hl : es.length ≤ 190) : RecOk (es ++ relAt t dn) := by
  have hn := recSt_nodup List.nodup_nil h
  obtain ⟨l', h2⟩ := recSt_rel hn ht
  refine ⟨recGo_st.mpr ⟨l', ?_⟩, ?_⟩
  · rw [recSt_app, h]
    exact h2
  · have hd : dn.length ≤ 2 := by
      match dn, hn with
      | [], _ => simp
      | [_], _ => simp
      | [_, _], _ => simp
      | a :: b :: c :: r, hn => simp at hn; cases a <;> cases b <;> cases c <;> simp at hn
    unfold relAt
    rw [List.length_append, List.length_map]
    omega
theorem kd_two {d : List Kd} (h : d.Nodup) : d = [] ∨ d = [.s] ∨ d = [.l] ∨ d = [.s, .l] ∨ d = [.l, .s] := by
  match d, h with
  | [], _ => simp
  | [a], _ => cases a <;> simp
  | [a, b], h => cases a <;> cases b <;> simp at h ⊢
  | a :: b :: c :: r, h => simp at h; cases a <;> cases b <;> cases c <;> simp at h
theorem kd_perm {d e : List Kd} (hd : d.Nodup) (he : DownOk e) (h : ∀ k, k ∈ d ↔ k ∈ e) : d.Perm e := by
  have hs := h .s
  have hl := h .l
  rcases he with rfl | rfl | rfl | rfl <;> rcases kd_two hd with rfl | rfl | rfl | rfl | rfl <;> simp at hs hl <;> first | exact List.Perm.refl _ | exact List.Perm.swap _ _ _
/-- a live state behind a record's first events, at a tick -/
structure LiveAt (c : Nat) (r : Rl) (es : List Ev) (l : Option Int) (dn : List Kd) (t : Int) (x : MSt) : Prop where
  K : Keep c r es t x
  rs : recSt none [] es = some (l, dn)
  dm : ∀ k, k ∈ dn ↔ k ∈ x.down
  lt : ∀ t0, l = some t0 → t0 ≤ t
theorem live_new {r : Rl} (ok : r.Ok) (t : Int) : LiveAt 0 r [] none [] t (MSt.new r false) := ⟨keep_new ok t, rfl, fun k => Iff.rfl, fun t0 h => by cases h⟩
section
variable {c : Nat} {r : Rl} {es : List Ev} {l : Option Int} {dn : List Kd} {t u : Int} {x : MSt}
theorem LiveAt.mono {d : Nat} (h : LiveAt c r es l dn t x) (hd : c ≤ d) : LiveAt d r es l dn t x := ⟨h.K.mono hd, h.rs, h.dm, h.lt⟩
theorem LiveAt.wait (h : LiveAt c r es l dn t x) (tu : t ≤ u) (hu : Tk u) (hc : c ≤ 4000) : LiveAt (c + 1) r es l dn u (x.adv u) := by
  obtain ⟨_, _, kp⟩ := adv_good h.K.gx hu (by omega)
  exact ⟨h.K.wait tu hu hc, h.rs, fun k => by rw [kp.d]; exact h.dm k, fun t0 e => by have := h.lt t0 e; omega⟩
theorem LiveAt.event (h : LiveAt c r es l dn t x) (tu : t ≤ u) (hu : Tk u) (hc : c ≤ 4000) (k : Kd) (b : Bool) (hb : b = !decide (k ∈ dn)) : LiveAt (c + 2) r (es ++ [(u, k, b)]) (some u) (stepDn dn (u, k, b)) u ((x.adv u).happen u k b) := by
  obtain ⟨_, _, kp⟩ := adv_good h.K.gx hu (by omega)
  have hk : b = true → k ∉ x.down := fun e => by
    rw [e] at hb
    have : k ∉ dn := by simpa using hb
    exact fun z => this ((h.dm k).mpr z)
  refine ⟨h.K.event tu hu hc k b hk, recSt_snoc h.rs (fun t0 e => by have := h.lt t0 e; omega) hb, fun j => ?_, fun t0 e => by cases e; exact Int.le_refl _⟩
  rw [stepDn_mem, (hap_f (x.adv u) u k b).d, kp.d]
  show (if b then j ∈ dn ∨ j = k else j ∈ dn ∧ j ≠ k) ↔ j ∈ (if b then pressDown k x.down else x.down.filter fun o => decide (o ≠ k))
  cases b with
  | true =>
    show (j ∈ dn ∨ j = k) ↔ j ∈ pressDown k x.down
    rw [h.dm j]
    unfold pressDown
    split <;> simp [or_comm]
  | false =>
    show (j ∈ dn ∧ j ≠ k) ↔ j ∈ x.down.filter fun o => decide (o ≠ k)
    rw [h.dm j, List.mem_filter, decide_eq_true_eq]
theorem LiveAt.perm (h : LiveAt c r es l dn t x) : dn.Perm x.down := kd_perm (recSt_nodup List.nodup_nil h.rs) h.K.gx.dn h.dm
theorem LiveAt.ok (h : LiveAt c r es l dn t x) (hl : es.length ≤ 190) : RecOk (es ++ relAt t dn) := closed_ok h.rs h.lt hl
/-- what the closed record sends is what the live keyer would send -/
theorem LiveAt.would (h : LiveAt c r es l dn t x) (ht : Tk t) (hc : c ≤ 3000) : (behind r (es ++ relAt t dn) false).tidy = (relX t x.down x).fin.tidy := would_tidy h.K ht hc h.perm
theorem LiveAt.now (h : LiveAt c r es l dn t x) (ht : Tk t) (hc : c ≤ 3000) : ∃ ys, Now r t x (behind r (es ++ relAt t dn) false) ys :=
  now_of h.K ht hc (ks := dn) (fun k hk => (h.dm k).mpr hk) (by rw [h.perm.length_eq]; have := h.K.gx.dn.len; omega)
end
end
section
section
variable {P : Program} {w : World} {K : PySem.W.Frag} {mg : Str → Option Value} {base : Heap}
/-! ### marks that have begun -/
theorem markB_cyc (r : Rl) (x : Run) (n : Nat) : markB r x (n * x.2.1.ks.length) = x.1 + n * x.2.1.per r := by
  obtain ⟨b, wd, t⟩ := x
  cases wd with
  | one k =>
    show b + ((n * 1 : Nat) : Int) * r.per k = b + n * (r.per k + 0)
    rw [Nat.mul_one, Int.add_zero]
  | two k =>
    show b + ((n * 2 / 2 : Nat) : Int) * (Wd.two k).per r + ((n * 2 % 2 : Nat) : Int) * r.per k = b + n * (Wd.two k).per r
    rw [show n * 2 / 2 = n by omega, show n * 2 % 2 = 0 by omega]
    simp
theorem cyc_le {r : Rl} (ok : r.Ok) {x : Run} {t : Int} {n : Nat} (hn : (n : Int) ≤ (t - x.1) / x.2.1.per r) : ∀ i, i < n * x.2.1.ks.length → markB r x i ≤ t := fun i hi => by
  have h1 := markB_mono ok x hi
  rw [markB_cyc] at h1
  have h2 := (Wd.per_sz ok x.2.1).1
  have h3 := Int.mul_le_mul_of_nonneg_right hn (show 0 ≤ x.2.1.per r by omega)
  have h4 := Int.ediv_mul_le (t - x.1) (show x.2.1.per r ≠ 0 by omega)
  omega
/-! ### of records -/
theorem tidy_bounds {r : Rl} {es : List Ev} (ok : r.Ok) (hg : RecGood r es) (hr : (behind r es false).rules = r) : (∀ x ∈ (behind r es false).tidy, 1 ≤ x.2.2 ∧ x.2.2.natAbs < 2 ^ 800 ∧ x.1.natAbs < 2 ^ 800) ∧ (behind r es false).tidy.length ≤ 1000000 := by
  refine ⟨fun x hx => ?_, ?_⟩
  · have h := tidyRuns_bound (r := (behind r es false).rules) (by rw [hr]; exact ok) hg.r x hx
    exact ⟨h.2.2, h.2.1, h.1⟩
  · have h1 := tidyRuns_len (r := (behind r es false).rules) hg.r.t1
    have h2 := hg.r.len
    show (tidyRuns (behind r es false).rules (behind r es false).runs).length ≤ _
    omega
def spRof (K : PySem.W.Frag) : Sp := fun vs H Q _ => ∃ (ar a : Addr) (r : Rl) (xs : List V) (es : List Ev), vs = [.ref ar, .ref a] ∧ SqT K H ar r.vs ∧ r.Ok ∧ SqL K H a xs ∧ Rows H evV xs es ∧ RecOk es ∧ RecGood r es ∧ ∀ p ys H', Lst H H' p ys runV (behind r es false).tidy → Q (.ref p) H'
theorem ok_runs_of (T : Txt K mg) : C8.Cal P w K mg base 11 "runs_of" (spRof K) [] := by
  refine calD (D_runs_of T) (T_runs_of T) sc_runs_of (fun _ _ _ _ _ _ us hl => match us, hl with | [_, _], _ => rfl) (fun vs H Q E h => ?_) (fun cdv A outer s H vs Q E hr h => ?_)
  · obtain ⟨_, _, _, _, _, rfl, _⟩ := h
    rfl
  · have hu := hu_of hr
    refine ⟨_, (pss_cons (ps_expr (C8.pe_c (ok_require_rules T) hr (by decide) rfl (pa_cons (pv 0) pa_nil)))
      (pss_cons (ps_expr (C8.pe_c (ok_require_record T) hr (by decide) rfl (pa_cons (pv 1) pa_nil)))
      (pss_one (ps_ret (C8.pe_c (ok_all_runs T) hr (by decide) rfl (pa_cons (pv 0) (pa_cons (pv 1) pa_nil))))))), ?_⟩
    walk_at "cx"
    obtain ⟨ar, a, r, xs, es, rfl, h1, ok, h2, hR, ho, hg, q⟩ := h
    walk_at "rd"
    refine u_reqR h1 ok fun H1 s1 => ?_
    walk_at "rd"
    refine u_reqRec (s1.seq h2) (hR.ex s1) ho fun H2 s2 => ?_
    walk_at "rd"
    have s3 := s1.trans s2
    refine u_ar (Same.tup s3 h1) ok (s3.seq h2) (hR.ex s3) hg fun p ys H' hL => ?_
    walk_at "rd"
    exact q _ _ _ (hL.weak s3)
theorem u_rof {H : Hp} {Q : VK} {E : XK} {ar a : Addr} {r : Rl} {xs : List V} {es : List Ev} (h1 : SqT K H ar r.vs) (ok : r.Ok) (h2 : SqL K H a xs) (hR : Rows H evV xs es) (ho : RecOk es) (hg : RecGood r es) (q : ∀ p ys H', Lst H H' p ys runV (behind r es false).tidy → Q (.ref p) H') : spRof K [.ref ar, .ref a] H Q E := ⟨ar, a, r, xs, es, rfl, h1, ok, h2, hR, ho, hg, q⟩
theorem kinds_tot {r : Rl} {es : List Ev} (hg : RecGood r es) : tot (kindsOf r es) = rtot (behind r es false).tidy ∧ (kindsOf r es).length ≤ 8000000 := by
  have h := tidy_kis hg.r
  obtain ⟨h1, h2⟩ := tidyK_tot h.1
  have e : ∀ rs : List Run, tot (rs.map kiOf) = rtot rs := fun rs => by
    induction rs with
    | nil => rfl
    | cons x rs ih => rw [List.map_cons]; show _ + tot (rs.map kiOf) = _; rw [ih]; rfl
  refine ⟨by unfold kindsOf; rw [h1, e], ?_⟩
  have h3 := tidyKinds_len h.1
  have h4 := h.2
  show (tidyKinds _).length ≤ _
  omega
def spCom (K : PySem.W.Frag) : Sp := fun vs H Q _ => ∃ (ar a : Addr) (r : Rl) (xs : List V) (es : List Ev), vs = [.ref ar, .ref a] ∧ SqT K H ar r.vs ∧ r.Ok ∧ SqL K H a xs ∧ Rows H evV xs es ∧ RecOk es ∧ RecGood r es ∧ ∀ H', Same H H' → Q (.int (rtot (behind r es false).tidy)) H'
theorem ok_count_marks (T : Txt K mg) : C8.Cal P w K mg base 13 "count_marks" (spCom K) [] := by
  refine calD (D_count_marks T) (T_count_marks T) sc_count_marks (fun _ _ _ _ _ _ us hl => match us, hl with | [_, _], _ => rfl) (fun vs H Q E h => ?_) (fun cdv A outer s H vs Q E hr h => ?_)
  · obtain ⟨_, _, _, _, _, rfl, _⟩ := h
    rfl
  · have hu := hu_of hr
    refine ⟨_, (pss_one (ps_ret (C8.pe_c (ok_many_marks T) hr (by decide) rfl (pa_cons (C8.pe_c (ok_kinds_of T) hr (by decide) rfl (pa_cons (pv 0) (pa_cons (pv 1) pa_nil))) pa_nil)))), ?_⟩
    walk_at "cx"
    obtain ⟨ar, a, r, xs, es, rfl, h1, ok, h2, hR, ho, hg, q⟩ := h
    obtain ⟨e1, e2⟩ := kinds_tot hg
    walk_at "rd"
    refine u_ko h1 ok h2 hR ho hg fun p ys H' hL => ?_
    walk_at "rd"
    refine u_mm (SqL.of hL.hL) hL.hR (Nat.lt_of_le_of_lt e2 (by decide)) fun H2 s2 => ?_
    walk_at "rd"
    rw [e1]
    exact q _ (hL.s.trans s2)
theorem u_com {H : Hp} {Q : VK} {E : XK} {ar a : Addr} {r : Rl} {xs : List V} {es : List Ev} (h1 : SqT K H ar r.vs) (ok : r.Ok) (h2 : SqL K H a xs) (hR : Rows H evV xs es) (ho : RecOk es) (hg : RecGood r es) (q : ∀ H', Same H H' → Q (.int (rtot (behind r es false).tidy)) H') : spCom K [.ref ar, .ref a] H Q E := ⟨ar, a, r, xs, es, rfl, h1, ok, h2, hR, ho, hg, q⟩
def idleV (r : Rl) (rs : List Run) : V := match rs.getLast? with
  | none => .non
  | some x => .int (runEnd r x)
theorem run_dat (x : Run) : (runV x).all datV = true := by
  obtain ⟨b, wd, n⟩ := x
  show (datV (.int b) && (datV (.str wd.str) && (datV (.int n) && true))) = true
  have e : datV (.str wd.str) = true := by cases wd with | _ k => cases k <;> decide +kernel
  rw [e]
  rfl
def spIdf (K : PySem.W.Frag) : Sp := fun vs H Q _ => ∃ (ar a : Addr) (r : Rl) (xs : List V) (es : List Ev), vs = [.ref ar, .ref a] ∧ SqT K H ar r.vs ∧ r.Ok ∧ SqL K H a xs ∧ Rows H evV xs es ∧ RecOk es ∧ RecGood r es ∧ (behind r es false).rules = r ∧ ∀ H', Same H H' → Q (idleV r (behind r es false).tidy) H'
theorem ok_idle_from (T : Txt K mg) : C8.Cal P w K mg base 12 "idle_from" (spIdf K) [] := by
  refine calD (D_idle_from T) (T_idle_from T) sc_idle_from (fun _ _ _ _ _ _ us hl => match us, hl with | [_, _], _ => rfl) (fun vs H Q E h => ?_) (fun cdv A outer s H vs Q E hr h => ?_)
  · obtain ⟨_, _, _, _, _, rfl, _⟩ := h
    rfl
  · have hu := hu_of hr
    refine ⟨_, (pss_cons (ps_set (i := 2) sc_idle_from.nd rfl (Or.inl rfl) (C8.pe_c (ok_runs_of T) hr (by decide) rfl (pa_cons (pv 0) (pa_cons (pv 1) pa_nil))))
      (pss_cons (ps_if (pt_cmpR (op_eqD hr.units) (pv 2) (pe_lst pa_nil) (nomark _))
      (pss_one (ps_ret pe_non))
      pss_nil)
      (pss_cons (ps_asg (pe_ix ix_list (pv 2) (pe_un un_neg pe_int) (fun _ _ => rfl)) (pg_tup (n := 3) rfl (pgs_cons (pg_name (i := 3) sc_idle_from.nd rfl (Or.inl rfl)) (pgs_cons (pg_name (i := 4) sc_idle_from.nd rfl (Or.inl rfl)) (pgs_cons (pg_name (i := 5) sc_idle_from.nd rfl (Or.inl rfl)) pgs_nil)))))
      (pss_one (ps_ret (pe_op op_add (pv 3) (pe_op op_mulW (pv 5) (C8.pe_c (ok_word_period T) hr (by decide) rfl (pa_cons (pv 0) (pa_cons (pv 4) pa_nil)))))))))), ?_⟩
    walk_at "cx"
    obtain ⟨ar, a, r, xs, es, rfl, h1, ok, h2, hR, ho, hg, hr, q⟩ := h
    have hb := tidy_bounds ok hg hr
    walk_at "rd"
    refine u_rof h1 ok h2 hR ho hg fun p ys H1 hL => ?_
    walk_at "rd"
    rename_i l hl
    refine r_eqNil (Same.seq (Same.new hl) (SqL.of hL.hL)) (SqL.of upd_same) (Dat.ofRows run_dat (hL.hR.ex (Same.new hl))) ?_
    generalize (behind r es false).tidy = rs at *
    rcases List.eq_nil_or_concat rs with rfl | ⟨rs', x, rfl⟩
    · have e : ys = [] := List.length_eq_zero_iff.mp hL.hR.len
      rw [e]
      refine r_bl ?_
      refine r_ifT rfl ?_
      walk_at "rd"
      exact q _ (hL.s.trans (Same.new hl))
    · rw [List.concat_eq_append] at *
      have hL2 := hL.new (o := .lst []) hl
      obtain ⟨ys', ea, rfl, hY, hea⟩ := hL2.hR.last
      obtain ⟨hx1, hx2, hx3⟩ := hb.1 x (by simp)
      have hpz := Wd.per_sz ok x.2.1
      have e1 : idleV r (rs' ++ [x]) = .int (runEnd r x) := by unfold idleV; rw [List.getLast?_concat]
      rw [e1] at q
      obtain ⟨b, wd, n⟩ := x
      rw [show (ys' ++ [V.ref ea]).isEmpty = false by simp]
      refine r_bl ?_
      refine r_ifF rfl ?_
      walk_at "rd"
      refine r_ixL (SqL.of hL2.hL) at_app ?_
      walk_at "rd"
      refine u_wp (Same.tup hL2.s h1) fun H3 s3 => ?_
      refine r_I (wide_mul (a := 800) (b := 302) hx2 (abs_of (show 0 ≤ wd.per r by have := hpz.1; dsimp only at this; omega) hpz.2) (by decide) (by decide) (by decide)) ?_
      walk_at "rd"
      exact q _ (hL2.s.trans s3)
theorem u_idf {H : Hp} {Q : VK} {E : XK} {ar a : Addr} {r : Rl} {xs : List V} {es : List Ev} (h1 : SqT K H ar r.vs) (ok : r.Ok) (h2 : SqL K H a xs) (hR : Rows H evV xs es) (ho : RecOk es) (hg : RecGood r es) (hr : (behind r es false).rules = r) (q : ∀ H', Same H H' → Q (idleV r (behind r es false).tidy) H') : spIdf K [.ref ar, .ref a] H Q E := ⟨ar, a, r, xs, es, rfl, h1, ok, h2, hR, ho, hg, hr, q⟩
theorem markAt_cons (r : Rl) (t : Int) (w : Run) (ws : List Run) : markAt r t (w :: ws) = if 0 < begN t (expand r w) ∧ t < markE r w (begN t (expand r w) - 1) then some (w, begN t (expand r w) - 1) else markAt r t ws := rfl
end
end
section
section
variable {P : Program} {w : World} {K : PySem.W.Frag} {mg : Str → Option Value} {base : Heap}
local macro_rules | `(tactic| walk_at "r1") => `(tactic| with_reducible refine r_gsub ?_)
/-! ### draws -/
theorem cut_to (xs : List V) (n : Nat) : cutV xs none (some (n : Int)) = xs.take n := by
  unfold cutV
  rw [HT.sIx_none, HT.sIx_nat, List.drop_zero, Nat.sub_zero]
  rcases Nat.le_total n xs.length with h | h
  · rw [Nat.min_eq_left h]
  · rw [Nat.min_eq_right h, List.take_length, List.take_of_length_le h]
theorem dig_next {d y : Int} {i : Nat} (h0 : 0 ≤ d) (h : d < 2 ^ (200 * i)) (y0 : 0 ≤ y) (y1 : y < 10 ^ 60) : 0 ≤ d * 10 ^ 60 + y ∧ d * 10 ^ 60 + y < 2 ^ (200 * (i + 1)) := by
  have e : (2 : Int) ^ (200 * (i + 1)) = 2 ^ (200 * i) * 2 ^ 200 := by rw [Nat.mul_add, Nat.mul_one, Int.pow_add]
  rw [e]
  generalize (2 : Int) ^ (200 * i) = X at *
  omega
theorem dig_keep {d : Int} {i : Nat} (h : d < 2 ^ (200 * i)) : d < 2 ^ (200 * (i + 1)) := by
  have e : (2 : Int) ^ (200 * (i + 1)) = 2 ^ (200 * i) * 2 ^ 200 := by rw [Nat.mul_add, Nat.mul_one, Int.pow_add]
  have h0 : (0 : Int) < 2 ^ (200 * i) := Int.pow_pos (by decide)
  rw [e]
  generalize (2 : Int) ^ (200 * i) = X at *
  omega
def spSpr (K : PySem.W.Frag) : Sp := fun vs H Q _ => ∃ (s : Addr) (is : List Int), vs = [.ref s] ∧ SqL K H s (is.map V.int) ∧ ∀ p H', Same H H' → H p = none → FtAt H' p 0 → Q (.ref p) H'
theorem ok_law_spring (T : Txt K mg) : C8.Cal P w K mg base 1 "_law_spring" (spSpr K) [] := by
  refine calD (D_law_spring T) (T_law_spring T) sc_law_spring (fun _ _ _ _ _ _ us hl => match us, hl with | [_], _ => rfl) (fun vs H Q E h => ?_) (fun cdv A outer s H vs Q E hr h => ?_)
  · obtain ⟨_, _, rfl, _⟩ := h
    rfl
  · have hu := hu_of hr
    refine ⟨_, (pss_cons (ps_asg (pe_tup (pa_cons pe_int (pa_cons pe_int pa_nil))) (pg_tup (n := 2) rfl (pgs_cons (pg_name (i := 1) sc_law_spring.nd rfl (Or.inl rfl)) (pgs_cons (pg_name (i := 2) sc_law_spring.nd rfl (Or.inl rfl)) pgs_nil))))
      (pss_cons (ps_for PassesOwn.never rfl (pi_list (pe_slice sl_list (pv 0) po_none (po_some pe_int))) (pg_name (i := 3) sc_law_spring.nd rfl (Or.inl rfl))
      (pss_cons (ps_if (pt_cmpR op_ge (pe_callB cq_abs (by rfl) (T_abs T) (by decide +kernel) (pa_cons (pv 3) pa_nil)) (pe_op op_pow pe_int pe_int) (nomark _))
      (pss_one (ps_set (i := 1) sc_law_spring.nd rfl (Or.inl rfl) (pe_op op_add (pe_op op_mulW (pv 1) (pe_op op_pow pe_int pe_int)) (pe_op op_mod (pe_callTy cq_int1 (by rfl) (T_int T) (by decide +kernel) (pa_cons (pe_callB cq_abs (by rfl) (T_abs T) (by decide +kernel) (pa_cons (pv 3) pa_nil)) pa_nil)) (pe_op op_pow pe_int pe_int)))))
      pss_nil)
      (pss_cons (ps_set (i := 4) sc_law_spring.nd rfl (Or.inl rfl) (pe_op op_add (pe_op op_add (pe_op op_mul (pv 2) pe_int) (pe_op op_mod (pe_callTy cq_int1 (by rfl) (T_int T) (by decide +kernel) (pa_cons (pv 3) pa_nil)) pe_int)) pe_int))
      (pss_one (ps_set (i := 2) sc_law_spring.nd rfl (Or.inl rfl) (pe_op op_mod (pe_callTy cq_int1 (by rfl) (T_int T) (by decide +kernel) (pa_cons (pv 4) pa_nil)) pe_int))))))
      (pss_one (ps_ret (pe_lst (pa_cons (pv 1) (pa_cons (pv 2) (pa_cons pe_int pa_nil)))))))), ?_⟩
    walk_at "cx"
    obtain ⟨s, is, rfl, hs, q⟩ := h
    walk_at "rd"
    rename_i p9 hp9 l hl
    have s9 := (Same.new (o := .tup [V.int 0, V.int 40960001639]) hp9).trans (Same.new (o := .lst (cutV (is.map V.int) none (some 40))) hl)
    refine for_it (walk_list (xs := cutV (is.map V.int) none (some 40))) (fun i σ Ha => ∃ (d st : Int) (v3 v4 : Option V), σ = [some (.ref s), some (.int d), some (.int st), v3, v4] ∧ (Same H Ha ∧ Ha l = some (.lst (cutV (is.map V.int) none (some 40)))) ∧ 0 ≤ d ∧ d < 2 ^ (200 * i) ∧ 0 ≤ st ∧ st < 2 ^ 100) ⟨_, _, _, _, rfl, ⟨s9, upd_same⟩, by decide, by decide, by decide, by decide⟩ (fun i σ Ha _ z => by obtain ⟨_, _, _, _, _, z, _⟩ := z; exact SqL.of z.2) ?_ ?_
    · rintro i y σ Ha Hb hi ⟨d, st, v3, v4, rfl, s1, d0, d1, t0, t1⟩ ⟨rfl, hy⟩
      rw [show cutV (is.map V.int) none (some 40) = (is.map V.int).take 40 from cut_to _ 40] at hi hy
      rw [List.length_take] at hi
      obtain ⟨cell, _, rfl⟩ := List.mem_map.mp (List.mem_of_mem_take (List.mem_of_getElem? hy))
      walk_at "rd"
      refine r_I ⟨by decide, by decide, by decide⟩ ?_
      walk_at "rd"
      have m1 := Int.emod_nonneg cell (show (2305843009213693951 : Int) ≠ 0 by decide)
      have m2 := Int.emod_lt_of_pos cell (show (0 : Int) < 2305843009213693951 by decide)
      have n1 := Int.emod_nonneg (st * 1000303 + cell % 2305843009213693951 + 17) (show (618970019642690137449562111 : Int) ≠ 0 by decide)
      have n2 := Int.emod_lt_of_pos (st * 1000303 + cell % 2305843009213693951 + 17) (show (0 : Int) < 618970019642690137449562111 by decide)
      have a1 := Int.emod_nonneg (if cell < 0 then -cell else cell) (show ((10 : Int) ^ 60) ≠ 0 by decide)
      have a2 := Int.emod_lt_of_pos (if cell < 0 then -cell else cell) (show (0 : Int) < (10 : Int) ^ 60 by decide)
      have dn := dig_next d0 d1 a1 a2
      refine r_ite (fun _ => ?_) (fun _ => ?_)
      · walk_at "rd"
        refine r_I ⟨by decide, by decide, by decide⟩ ?_
        refine r_I (wide_mul (a := 200 * i + 1) (b := 200) ?_ (by decide) (by omega) (by decide) (by omega)) ?_
        · refine abs_of d0 ?_
          have e : (2 : Int) ^ (200 * i + 1) = 2 ^ (200 * i) * 2 := by rw [Int.pow_succ]
          rw [e]
          have h0 : (0 : Int) < 2 ^ (200 * i) := Int.pow_pos (by decide)
          omega
        walk_at "rd"
        refine r_I ⟨by decide, by decide, by decide⟩ ?_
        refine r_I (show (0 : Int) < (10 : Int) ^ (60 : Int).toNat by decide) ?_
        walk_at "rd"
        refine r_I (.inr ⟨by decide, by decide⟩) ?_
        walk_at "rd"
        refine r_I (show (0 : Int) < 2305843009213693951 by decide) ?_
        walk_at "rd"
        refine r_I (show (0 : Int) < 618970019642690137449562111 by decide) ?_
        walk_at "rd"
        exact ⟨_, _, _, _, rfl, s1, dn.1, dn.2, n1, by omega⟩
      · walk_at "rd"
        refine r_I (.inr ⟨by decide, by decide⟩) ?_
        walk_at "rd"
        refine r_I (show (0 : Int) < 2305843009213693951 by decide) ?_
        walk_at "rd"
        refine r_I (show (0 : Int) < 618970019642690137449562111 by decide) ?_
        walk_at "rd"
        exact ⟨_, _, _, _, rfl, s1, d0, dig_keep d1, n1, by omega⟩
    · rintro σ Ha ⟨d, st, v3, v4, rfl, s1, d0, d1, t0, t1⟩
      walk_at "rd"
      rename_i p hp
      exact q _ _ (s1.1.trans (Same.new hp)) (Same.free' s1.1 hp) ⟨_, _, _, upd_same, d0, t0, by omega, by decide, by decide⟩
theorem u_spr {H : Hp} {Q : VK} {E : XK} {s : Addr} {is : List Int} (hs : SqL K H s (is.map V.int)) (q : ∀ p H', Same H H' → H p = none → FtAt H' p 0 → Q (.ref p) H') : spSpr K [.ref s] H Q E := ⟨s, is, rfl, hs, q⟩
def spDrw : Sp := fun vs H Q _ => ∃ (f : Addr) (m : Int) (n : Nat), vs = [.ref f, .int m] ∧ FtAt H f n ∧ 0 < m ∧ m.natAbs < 2 ^ 200 ∧ n ≤ 1000000 ∧ ∀ d H', 0 ≤ d → d < m → Oth f H H' → FtAt H' f (n + 1) → Q (.int d) H'
theorem ok_law_draw (T : Txt K mg) : C8.Cal P w K mg base 1 "_law_draw" spDrw [] := by
  refine calD (D_law_draw T) (T_law_draw T) sc_law_draw (fun _ _ _ _ _ _ us hl => match us, hl with | [_, _], _ => rfl) (fun vs H Q E h => ?_) (fun cdv A outer s H vs Q E hr h => ?_)
  · obtain ⟨_, _, _, rfl, _⟩ := h
    rfl
  · have hu := hu_of hr
    refine ⟨_, (pss_cons (ps_if (pt_cmpR op_gt (pe_ix ix_list (pv 0) pe_int (fun _ _ => rfl)) pe_int (nomark _))
      (pss_cons (ps_set (i := 2) sc_law_draw.nd rfl (Or.inl rfl) (pe_op op_mod (pe_callTy cq_int1 (by rfl) (T_int T) (by decide +kernel) (pa_cons (pe_ix ix_list (pv 0) pe_int (fun _ _ => rfl)) pa_nil)) (pv 1)))
      (pss_cons (ps_asg (pe_op op_fdivW (pe_ix ix_list (pv 0) pe_int (fun _ _ => rfl)) (pv 1)) (pg_sub (pv 0) pe_int set_list))
      (pss_one (ps_ret (pv 2)))))
      pss_nil)
      (pss_cons (ps_asg (pe_op op_add (pe_ix ix_list (pv 0) pe_int (fun _ _ => rfl)) pe_int) (pg_sub (pv 0) pe_int set_list))
      (pss_cons (ps_set (i := 3) sc_law_draw.nd rfl (Or.inl rfl) (pe_op op_add (pe_ix ix_list (pv 0) pe_int (fun _ _ => rfl)) (pe_op op_mul pe_int (pe_ix ix_list (pv 0) pe_int (fun _ _ => rfl)))))
      (pss_cons (ps_set (i := 3) sc_law_draw.nd rfl (Or.inl rfl) (pe_op op_add (pe_op op_mod (pe_callTy cq_int1 (by rfl) (T_int T) (by decide +kernel) (pa_cons (pe_op op_powW (pv 3) pe_int) pa_nil)) pe_int) (pe_op op_mul pe_int (pe_ix ix_list (pv 0) pe_int (fun _ _ => rfl)))))
      (pss_cons (ps_set (i := 3) sc_law_draw.nd rfl (Or.inl rfl) (pe_op op_mod (pe_callTy cq_int1 (by rfl) (T_int T) (by decide +kernel) (pa_cons (pe_op op_powW (pv 3) pe_int) pa_nil)) pe_int))
      (pss_one (ps_ret (pe_op op_mod (pe_callTy cq_int1 (by rfl) (T_int T) (by decide +kernel) (pa_cons (pe_op op_fdiv (pv 3) pe_int) pa_nil)) (pv 1))))))))), ?_⟩
    walk_at "cx"
    obtain ⟨f, m, n, rfl, ⟨a, b, c, hf, a0, b0, b1, c0, c1⟩, m0, m1, hn, q⟩ := h
    walk_at "rd"
    by_cases ha : a > 0
    · refine r_ifT (decide_eq_true ha) ?_
      walk_at "rd"
      refine r_I (show (0 : Int) < m from m0) ?_
      walk_at "rd"
      refine r_I (wide_div (b := 200) m0 m1 (by decide) (by decide)) ?_
      walk_at "rd"
      refine r_setL hf (j := 0) (by rfl) ?_
      walk_at "rd"
      exact q _ _ (Int.emod_nonneg _ (by omega)) (Int.emod_lt_of_pos _ m0) Oth.put ⟨a / m, b, c, upd_same, Int.ediv_nonneg a0 (by omega), b0, b1, c0, by omega⟩
    · refine r_ifF (decide_eq_false ha) ?_
      walk_at "rd"
      refine r_setL hf (j := 2) (by rfl) ?_
      have hf2 : upd H f (.lst [.int a, .int b, .int (c + 1)]) f = some (.lst [.int a, .int b, .int (c + 1)]) := upd_same
      show _
      walk_at "rd"
      refine r_I (.inl ⟨by decide, by decide⟩) ?_
      walk_at "rd"
      refine r_I (dip_cube (by omega) (by omega)) ?_
      walk_at "rd"
      refine r_I (show (0 : Int) < 162259276829213363391578010288127 by decide) ?_
      walk_at "rd"
      refine r_I (.inl ⟨by decide, by decide⟩) ?_
      walk_at "rd"
      have e1 := Int.emod_nonneg ((b + 2305843009213693921 * (c + 1)) ^ (3 : Int).toNat) (show (162259276829213363391578010288127 : Int) ≠ 0 by decide)
      have e2 := Int.emod_lt_of_pos ((b + 2305843009213693921 * (c + 1)) ^ (3 : Int).toNat) (show (0 : Int) < 162259276829213363391578010288127 by decide)
      refine r_I (dip_cube (show 0 ≤ (b + 2305843009213693921 * (c + 1)) ^ (3 : Int).toNat % 162259276829213363391578010288127 + 888888000001 * (c + 1) by omega) (show (b + 2305843009213693921 * (c + 1)) ^ (3 : Int).toNat % 162259276829213363391578010288127 + 888888000001 * (c + 1) < 2 ^ 200 by omega)) ?_
      walk_at "rd"
      refine r_I (show (0 : Int) < 170141183460469231731687303715884105727 by decide) ?_
      walk_at "rd"
      refine r_I ⟨by decide, by decide⟩ ?_
      walk_at "rd"
      refine r_I (show (0 : Int) < m from m0) ?_
      walk_at "rd"
      exact q _ _ (Int.emod_nonneg _ (by omega)) (Int.emod_lt_of_pos _ m0) Oth.put ⟨a, b, c + 1, upd_same, a0, b0, b1, by omega, by omega⟩
theorem u_drw {H : Hp} {Q : VK} {E : XK} {f : Addr} {m : Int} {n : Nat} (h : FtAt H f n) (h0 : 0 < m) (h1 : m.natAbs < 2 ^ 200) (hn : n ≤ 1000000) (q : ∀ d H', 0 ≤ d → d < m → Oth f H H' → FtAt H' f (n + 1) → Q (.int d) H') : spDrw [.ref f, .int m] H Q E := ⟨f, m, n, rfl, h, h0, h1, hn, q⟩
end
end
section
section
variable {P : Program} {w : World} {K : PySem.W.Frag} {mg : Str → Option Value} {base : Heap}
local macro_rules | `(tactic| walk_at "r1") => `(tactic| with_reducible refine r_gsub ?_)
theorem r_cutM {t u : TS} {D : Ends} {σ : L2.St} {H : Hp} (Mid : L2.St → Hp → Prop) (h1 : t { D with nx := Mid } σ H) (h2 : ∀ σ' H', Mid σ' H' → u D σ' H') : C8.tCut t u D σ H := ⟨Mid, h1, h2⟩
theorem unit_in {x : V} (h : x ∈ ([.int 1, .int 1, .int 9, .int ((10 : Int) ^ (26 : Int).toNat)] : List V)) : ∃ t : Int, x = .int t ∧ 1 ≤ t ∧ t ≤ 10 ^ 26 := by
  simp only [List.mem_cons, List.not_mem_nil, or_false] at h
  rcases h with rfl | rfl | rfl | rfl
  · exact ⟨1, rfl, by decide, by decide⟩
  · exact ⟨1, rfl, by decide, by decide⟩
  · exact ⟨9, rfl, by decide, by decide⟩
  · exact ⟨10 ^ 26, rfl, by decide, by decide⟩
theorem int_in {x : V} {is : List Int} {lo hi : Int} (h : x ∈ is.map V.int) (hb : ∀ i ∈ is, lo ≤ i ∧ i ≤ hi) : ∃ t : Int, x = .int t ∧ lo ≤ t ∧ t ≤ hi := by
  obtain ⟨t, ht, rfl⟩ := List.mem_map.mp h
  exact ⟨t, rfl, hb t ht⟩
theorem rm5_in {x : V} (h : x ∈ ([.str "none", .str "press", .str "held", .str "held", .str "press"] : List V)) : ∃ t : Rm, x = .str t.str := by
  simp only [List.mem_cons, List.not_mem_nil, or_false] at h
  rcases h with rfl | rfl | rfl | rfl | rfl
  · exact ⟨.no, rfl⟩
  · exact ⟨.press, rfl⟩
  · exact ⟨.held, rfl⟩
  · exact ⟨.held, rfl⟩
  · exact ⟨.press, rfl⟩
theorem bt4_in {x : V} (h : x ∈ ([.str "turn", .str "stay", .str "s", .str "l"] : List V)) : ∃ t : Bt, x = .str t.str := by
  simp only [List.mem_cons, List.not_mem_nil, or_false] at h
  rcases h with rfl | rfl | rfl | rfl
  · exact ⟨.turn, rfl⟩
  · exact ⟨.stay, rfl⟩
  · exact ⟨.s, rfl⟩
  · exact ⟨.l, rfl⟩
theorem prod_b {u v U N : Int} (h1 : 1 ≤ u) (h2 : u ≤ U) (h3 : 1 ≤ v) (h4 : v ≤ N) : 1 ≤ u * v ∧ u * v ≤ U * N := by
  refine ⟨?_, Int.mul_le_mul h2 h4 (by omega) (by omega)⟩
  have := Int.mul_le_mul h1 h3 (by decide) (by omega)
  simpa using this
theorem mul_w {u v : Int} (h1 : 1 ≤ u) (h2 : u ≤ 10 ^ 26) (h3 : 1 ≤ v) (h4 : v ≤ 200) : CMulW u v := wide_mul (a := 100) (b := 10) (by omega) (by omega) (by decide) (by decide) (by decide)
theorem maxI {a b : Int} : a ≤ (if b > a then b else a) ∧ b ≤ (if b > a then b else a) ∧ ((if b > a then b else a) = a ∨ (if b > a then b else a) = b) := by split <;> omega
theorem minI {a b : Int} : (if b < a then b else a) ≤ a ∧ (if b < a then b else a) ≤ b ∧ ((if b < a then b else a) = a ∨ (if b < a then b else a) = b) := by split <;> omega
/-- the pause is not much greater than one of the lengths -/
def PauB (r : Rl) : Prop := r.p ≤ 3 * r.s + 1 ∨ r.p ≤ 3 * r.l + 1
def spRus (K : PySem.W.Frag) : Sp := fun vs H Q _ => ∃ (f : Addr) (n : Nat), vs = [.ref f] ∧ FtAt H f n ∧ n ≤ 100000 ∧ ∀ p r H', Oth f H H' → H p = none → H' p = some (.tup r.vs) → RlT r → PauB r → FtAt H' f (n + 30) → Q (.ref p) H'
theorem ok_law_rules (T : Txt K mg) : C8.Cal P w K mg base 2 "_law_rules" (spRus K) [] := by
  refine calD (D_law_rules T) (T_law_rules T) sc_law_rules (fun _ _ _ _ _ _ us hl => match us, hl with | [_], _ => rfl) (fun vs H Q E h => ?_) (fun cdv A outer s H vs Q E hr h => ?_)
  · obtain ⟨_, _, rfl, _⟩ := h
    rfl
  · have hu := hu_of hr
    refine ⟨_, (pss_cons (ps_set (i := 1) sc_law_rules.nd rfl (Or.inl rfl) (pe_ix ix_list (pe_lst (pa_cons pe_int (pa_cons pe_int (pa_cons pe_int (pa_cons (pe_op op_pow pe_int pe_int) pa_nil))))) (C8.pe_c (ok_law_draw T) hr (by decide) rfl (pa_cons (pv 0) (pa_cons pe_int pa_nil))) (fun _ _ => rfl)))
      (pss_cons (ps_par rfl sc_law_rules.nd (i := 2) (j := 3) rfl rfl (by decide) rfl rfl (pa_cons (pe_op op_add (pe_op op_mulW (pv 1) (pe_op op_add pe_int (C8.pe_c (ok_law_draw T) hr (by decide) rfl (pa_cons (pv 0) (pa_cons pe_int pa_nil))))) (C8.pe_c (ok_law_draw T) hr (by decide) rfl (pa_cons (pv 0) (pa_cons pe_int pa_nil)))) (pa_cons (pe_op op_mulW (pv 1) (pe_op op_add pe_int (C8.pe_c (ok_law_draw T) hr (by decide) rfl (pa_cons (pv 0) (pa_cons pe_int pa_nil))))) pa_nil)) rfl)
      (pss_cons (ps_set (i := 4) sc_law_rules.nd rfl (Or.inl rfl) (pe_op op_add (pe_op op_mulW (pv 1) (pe_op op_add pe_int (C8.pe_c (ok_law_draw T) hr (by decide) rfl (pa_cons (pv 0) (pa_cons pe_int pa_nil))))) (C8.pe_c (ok_law_draw T) hr (by decide) rfl (pa_cons (pv 0) (pa_cons pe_int pa_nil)))))
      (C8.pss_cut (ps_if (pt_cmpR op_eq (C8.pe_c (ok_law_draw T) hr (by decide) rfl (pa_cons (pv 0) (pa_cons pe_int pa_nil))) pe_int (nomark _))
      (pss_one (ps_set (i := 3) sc_law_rules.nd rfl (Or.inl rfl) (pe_ix ix_list (pe_lst (pa_cons (pv 2) (pa_cons (pe_op op_add (pv 2) pe_int) (pa_cons (pe_op op_pow pe_int pe_int) (pa_cons (pe_op op_mulW (pv 1) (pe_op op_add pe_int (C8.pe_c (ok_law_draw T) hr (by decide) rfl (pa_cons (pv 0) (pa_cons pe_int pa_nil))))) pa_nil))))) (C8.pe_c (ok_law_draw T) hr (by decide) rfl (pa_cons (pv 0) (pa_cons pe_int pa_nil))) (fun _ _ => rfl))))
      pss_nil)
      (C8.pss_cut (ps_if (pt_cmpR op_eq (C8.pe_c (ok_law_draw T) hr (by decide) rfl (pa_cons (pv 0) (pa_cons pe_int pa_nil))) pe_int (nomark _))
      (pss_one (ps_par rfl sc_law_rules.nd (i := 2) (j := 3) rfl rfl (by decide) rfl rfl (pa_cons (pv 3) (pa_cons (pv 2) pa_nil)) rfl))
      pss_nil)
      (pss_cons (ps_set (i := 5) sc_law_rules.nd rfl (Or.inl rfl) (pe_lst (pa_cons pe_int (pa_cons pe_int (pa_cons (pe_op op_add (pv 2) (pv 4)) (pa_cons (pe_op op_add (pv 3) (pv 4)) pa_nil))))))
      (pss_cons (ps_set (i := 6) sc_law_rules.nd rfl (Or.inl rfl) (pe_op op_sub (pe_op op_add (pe_ix ix_list (pv 5) (C8.pe_c (ok_law_draw T) hr (by decide) rfl (pa_cons (pv 0) (pa_cons pe_int pa_nil))) (fun _ _ => rfl)) (C8.pe_c (ok_law_draw T) hr (by decide) rfl (pa_cons (pv 0) (pa_cons pe_int pa_nil)))) pe_int))
      (pss_cons (ps_set (i := 7) sc_law_rules.nd rfl (Or.inl rfl) (pe_ix ix_list (pe_lst (pa_cons (pv 6) (pa_cons (C8.pe_c (ok_law_draw T) hr (by decide) rfl (pa_cons (pv 0) (pa_cons (pe_op op_add (pe_op op_add (pe_callB (cq_max rfl) (by rfl) (T_max T) (by decide +kernel) (pa_cons (pv 2) (pa_cons (pv 3) pa_nil))) (pv 4)) pe_int) pa_nil))) (pa_cons pe_int pa_nil)))) (C8.pe_c (ok_law_draw T) hr (by decide) rfl (pa_cons (pv 0) (pa_cons pe_int pa_nil))) (fun _ _ => rfl)))
      (pss_cons (ps_set (i := 8) sc_law_rules.nd rfl (Or.inl rfl) (pe_ix ix_list (pe_lst (pa_cons pe_str (pa_cons pe_str (pa_cons pe_str (pa_cons pe_str (pa_cons pe_str pa_nil)))))) (C8.pe_c (ok_law_draw T) hr (by decide) rfl (pa_cons (pv 0) (pa_cons pe_int pa_nil))) (fun _ _ => rfl)))
      (pss_cons (ps_set (i := 9) sc_law_rules.nd rfl (Or.inl rfl) (pe_ix ix_list (pe_lst (pa_cons pe_str (pa_cons pe_str (pa_cons pe_str (pa_cons pe_str pa_nil))))) (C8.pe_c (ok_law_draw T) hr (by decide) rfl (pa_cons (pv 0) (pa_cons pe_int pa_nil))) (fun _ _ => rfl)))
      (pss_one (ps_ret (pe_tup (pa_cons (pv 2) (pa_cons (pv 3) (pa_cons (pv 4) (pa_cons (pe_callB (cq_max rfl) (by rfl) (T_max T) (by decide +kernel) (pa_cons pe_int (pa_cons (pv 7) pa_nil))) (pa_cons (pv 8) (pa_cons (pe_cmpR op_eq (C8.pe_c (ok_law_draw T) hr (by decide) rfl (pa_cons (pv 0) (pa_cons pe_int pa_nil))) pe_int (nomark _)) (pa_cons (pv 9) pa_nil)))))))))))))))))))), ?_⟩
    walk_at "cx"
    obtain ⟨f, n, rfl, hF, hn, q⟩ := h
    walk_at "rd"
    refine r_I ⟨by decide, by decide, by decide⟩ ?_
    walk_at "rd"
    rename_i l1 hl1
    have n1 := hF.ne hl1
    refine u_drw (hF.ex (Same.new hl1)) (by decide) (by decide) (by omega) fun d1 H1 a1 b1 o1 F1 => ?_
    have e1 := o1 _ _ n1 upd_same
    have O1 := (Oth.of (f := f) (Same.new (o := .lst [V.int 1, V.int 1, V.int 9, V.int ((10 : Int) ^ (26 : Int).toNat)]) hl1)).trans o1
    obtain ⟨x1, hx1, hm1⟩ := at_in (xs := [V.int 1, V.int 1, V.int 9, V.int ((10 : Int) ^ (26 : Int).toNat)]) a1 b1
    obtain ⟨un, rfl, u1, u2⟩ := unit_in hm1
    walk_at "rd"
    refine u_drw F1 (by decide) (by decide) (by omega) fun d2 H2 a2 b2 o2 F2 => ?_
    have O2 := O1.trans o2
    walk_at "rd"
    refine r_I (mul_w u1 u2 (by omega) (by omega)) ?_
    obtain ⟨p1, p2⟩ := prod_b u1 u2 (show 1 ≤ 1 + d2 by omega) (show 1 + d2 ≤ 6 by omega)
    have p0 : un ≤ un * (1 + d2) := by
      have h := Int.mul_le_mul_of_nonneg_left (show 1 ≤ 1 + d2 by omega) (show 0 ≤ un by omega)
      omega
    generalize un * (1 + d2) = w1 at *
    walk_at "rd"
    refine u_drw F2 (by decide) (by decide) (by omega) fun d3 H3 a3 b3 o3 F3 => ?_
    have O3 := O2.trans o3
    walk_at "rd"
    refine u_drw F3 (by decide) (by decide) (by omega) fun d4 H4 a4 b4 o4 F4 => ?_
    have O4 := O3.trans o4
    walk_at "rd"
    refine r_I (mul_w u1 u2 (by omega) (by omega)) ?_
    obtain ⟨p3, p4⟩ := prod_b u1 u2 (show 1 ≤ 1 + d4 by omega) (show 1 + d4 ≤ 9 by omega)
    generalize un * (1 + d4) = w2 at *
    walk_at "rd"
    refine u_drw F4 (by decide) (by decide) (by omega) fun d5 H5 a5 b5 o5 F5 => ?_
    have O5 := O4.trans o5
    walk_at "rd"
    refine r_I (mul_w u1 u2 (by omega) (by omega)) ?_
    obtain ⟨p5, p6⟩ := prod_b u1 u2 (show 1 ≤ 1 + d5 by omega) (show 1 + d5 ≤ 3 by omega)
    have p7 : un * (1 + d5) ≤ un * 3 := Int.mul_le_mul_of_nonneg_left (show 1 + d5 ≤ 3 by omega) (show 0 ≤ un by omega)
    generalize un * (1 + d5) = w3 at *
    walk_at "rd"
    refine u_drw F5 (by decide) (by decide) (by omega) fun d6 H6 a6 b6 o6 F6 => ?_
    have O6 := O5.trans o6
    walk_at "rd"
    have hsh : 1 ≤ w1 + d3 ∧ w1 + d3 ≤ 10 ^ 28 := by omega
    have hpa : 1 ≤ w3 + d6 ∧ w3 + d6 ≤ 10 ^ 29 := by omega
    have hlo : 1 ≤ w2 ∧ w2 ≤ 10 ^ 29 := by omega
    have hus : un ≤ w1 + d3 := by omega
    have hup : w3 + d6 ≤ 3 * un + 1 := by omega
    have F6' : FtAt H6 f (n + 6) := F6.mono (by omega)
    have O6' : Oth f H H6 := O6
    generalize w1 + d3 = sh at *
    generalize w3 + d6 = pa at *
    clear p0 p7 p1 p2 p3 p4 p5 p6 a2 b2 a3 b3 a4 b4 a5 b5 a6 b6 F1 F2 F3 F4 F5 F6 O1 O2 O3 O4 O5 O6 o1 o2 o3 o4 o5 o6 hx1 hm1 e1 hF
    refine r_cutM (fun σ' H' => ∃ lo : Int, σ' = [some (.ref f), some (.int un), some (.int sh), some (.int lo), some (.int pa), none, none, none, none, none] ∧ (1 ≤ lo ∧ lo ≤ 10 ^ 29) ∧ FtAt H' f (n + 9) ∧ Oth f H H') ?_ ?_
    · dsimp only
      walk_at "rd"
      refine u_drw F6' (by decide) (by decide) (by omega) fun d1 H1 a1 b1 o1 F1 => ?_
      have O1 := O6'.trans o1
      walk_at "rd"
      refine r_ite (fun _ => ?_) (fun _ => ?_)
      · walk_at "rd"
        refine r_I ⟨by decide, by decide, by decide⟩ ?_
        walk_at "rd"
        refine u_drw F1 (by decide) (by decide) (by omega) fun d2 H2 a2 b2 o2 F2 => ?_
        have O2 := O1.trans o2
        walk_at "rd"
        refine r_I (mul_w u1 u2 (by omega) (by omega)) ?_
        obtain ⟨p1, p2⟩ := prod_b u1 u2 (show 1 ≤ 10 + d2 by omega) (show 10 + d2 ≤ 99 by omega)
        generalize un * (10 + d2) = w1 at *
        walk_at "rd"
        rename_i l3 hl3
        have n3 := F2.ne hl3
        refine u_drw (F2.ex (Same.new hl3)) (by decide) (by decide) (by omega) fun d3 H3 a3 b3 o3 F3 => ?_
        have e3 := o3 _ _ n3 upd_same
        have O3 := (O2.trans (Oth.of (f := f) (Same.new (o := .lst [V.int sh, V.int (sh + 1), V.int ((10 : Int) ^ (27 : Int).toNat), V.int w1]) hl3))).trans o3
        obtain ⟨x3, hx3, hm3⟩ := at_in (xs := [V.int sh, V.int (sh + 1), V.int ((10 : Int) ^ (27 : Int).toNat), V.int w1]) a3 b3
        obtain ⟨lo, rfl, g1, g2⟩ := int_in (is := [sh, sh + 1, (10 : Int) ^ (27 : Int).toNat, w1]) (lo := 1) (hi := 10 ^ 29) hm3 (fun i hi => by
          have e27 : (10 : Int) ^ (27 : Int).toNat = 10 ^ 27 := rfl
          rw [e27] at hi
          simp only [List.mem_cons, List.not_mem_nil, or_false] at hi
          rcases hi with rfl | rfl | rfl | rfl <;> omega)
        walk_at "rd"
        exact ⟨_, rfl, ⟨g1, g2⟩, F3, O3⟩
      · walk_at "rd"
        exact ⟨_, rfl, hlo, F1.mono (by omega), O1⟩
    rintro σ1 H1 ⟨lo, rfl, hlo1, F1, O1⟩
    clear O6' F6' hlo
    refine r_cutM (fun σ' H' => ∃ s2 l2 : Int, σ' = [some (.ref f), some (.int un), some (.int s2), some (.int l2), some (.int pa), none, none, none, none, none] ∧ (1 ≤ s2 ∧ s2 ≤ 10 ^ 29) ∧ (1 ≤ l2 ∧ l2 ≤ 10 ^ 29) ∧ FtAt H' f (n + 10) ∧ Oth f H H' ∧ (un ≤ s2 ∨ un ≤ l2)) ?_ ?_
    · dsimp only
      walk_at "rd"
      refine u_drw F1 (by decide) (by decide) (by omega) fun d2 H2 a2 b2 o2 F2 => ?_
      have O2 := O1.trans o2
      walk_at "rd"
      refine r_ite (fun _ => ?_) (fun _ => ?_)
      · walk_at "rd"
        exact ⟨_, _, rfl, hlo1, ⟨hsh.1, by omega⟩, F2, O2, .inr hus⟩
      · walk_at "rd"
        exact ⟨_, _, rfl, ⟨hsh.1, by omega⟩, hlo1, F2, O2, .inl hus⟩
    rintro σ2 H2 ⟨s2, l2, rfl, hs2, hl2, F2, O2, hun⟩
    clear O1 F1 hlo1 hsh
    walk_at "rd"
    rename_i l3 hl3
    have n3 := F2.ne hl3
    have O3 := O2.trans (Oth.of (f := f) (Same.new (o := .lst [V.int 0, V.int 1, V.int (s2 + pa), V.int (l2 + pa)]) hl3))
    refine u_drw (F2.ex (Same.new hl3)) (by decide) (by decide) (by omega) fun d4 H4 a4 b4 o4 F4 => ?_
    have O4 := O3.trans o4
    have e4 := o4 _ _ n3 upd_same
    obtain ⟨x4, hx4, hm4⟩ := at_in (xs := [V.int 0, V.int 1, V.int (s2 + pa), V.int (l2 + pa)]) a4 b4
    obtain ⟨e0, rfl, g1, g2⟩ := int_in (is := [0, 1, s2 + pa, l2 + pa]) (lo := 0) (hi := 10 ^ 29 + 10 ^ 29) hm4 (fun i hi => by
      simp only [List.mem_cons, List.not_mem_nil, or_false] at hi
      rcases hi with rfl | rfl | rfl | rfl <;> omega)
    walk_at "rd"
    refine u_drw F4 (by decide) (by decide) (by omega) fun d5 H5 a5 b5 o5 F5 => ?_
    have O5 := O4.trans o5
    walk_at "rd"
    obtain ⟨m1, m2, m3⟩ := maxI (a := s2) (b := l2)
    generalize (if l2 > s2 then l2 else s2) = mx at *
    refine u_drw F5 (by omega) (by omega) (by omega) fun d6 H6 a6 b6 o6 F6 => ?_
    have O6 := O5.trans o6
    walk_at "rd"
    rename_i l7 hl7
    have n7 := F6.ne hl7
    have O7 := O6.trans (Oth.of (f := f) (Same.new (o := .lst [V.int (e0 + d5 - 1), V.int d6, V.int 0]) hl7))
    refine u_drw (F6.ex (Same.new hl7)) (by decide) (by decide) (by omega) fun d8 H8 a8 b8 o8 F8 => ?_
    have O8 := O7.trans o8
    have e8 := o8 _ _ n7 upd_same
    obtain ⟨x8, hx8, hm8⟩ := at_in (xs := [V.int (e0 + d5 - 1), V.int d6, V.int 0]) a8 b8
    obtain ⟨de, rfl, g3, g4⟩ := int_in (is := [e0 + d5 - 1, d6, 0]) (lo := -1) (hi := 10 ^ 30 - 10 ^ 29) hm8 (fun i hi => by
      simp only [List.mem_cons, List.not_mem_nil, or_false] at hi
      rcases hi with rfl | rfl | rfl <;> omega)
    walk_at "rd"
    rename_i l9 hl9
    have n9 := F8.ne hl9
    have O9 := O8.trans (Oth.of (f := f) (Same.new (o := .lst [V.str "none", V.str "press", V.str "held", V.str "held", V.str "press"]) hl9))
    refine u_drw (F8.ex (Same.new hl9)) (by decide) (by decide) (by omega) fun d10 H10 a10 b10 o10 F10 => ?_
    have O10 := O9.trans o10
    have e10 := o10 _ _ n9 upd_same
    obtain ⟨x10, hx10, hm10⟩ := at_in (xs := [V.str "none", V.str "press", V.str "held", V.str "held", V.str "press"]) a10 b10
    obtain ⟨rm, rfl⟩ := rm5_in hm10
    walk_at "rd"
    rename_i l11 hl11
    have n11 := F10.ne hl11
    have O11 := O10.trans (Oth.of (f := f) (Same.new (o := .lst [V.str "turn", V.str "stay", V.str "s", V.str "l"]) hl11))
    refine u_drw (F10.ex (Same.new hl11)) (by decide) (by decide) (by omega) fun d12 H12 a12 b12 o12 F12 => ?_
    have O12 := O11.trans o12
    have e12 := o12 _ _ n11 upd_same
    obtain ⟨x12, hx12, hm12⟩ := at_in (xs := [V.str "turn", V.str "stay", V.str "s", V.str "l"]) a12 b12
    obtain ⟨bt, rfl⟩ := bt4_in hm12
    walk_at "rd"
    refine u_drw F12 (by decide) (by decide) (by omega) fun d13 H13 a13 b13 o13 F13 => ?_
    have O13 := O12.trans o13
    walk_at "rd"
    rename_i p hp
    obtain ⟨m4, m5, m6⟩ := maxI (a := 0) (b := de)
    have hp0 : H p = none := by
      cases e : H p with
      | none => rfl
      | some u =>
        exfalso
        have e2 := O13 p u (fun z => by
          obtain ⟨xs, hx⟩ := F13.lst
          rw [← z, hp] at hx
          cases hx) e
        rw [hp] at e2
        cases e2
    generalize hdd : (if de > 0 then de else 0) = dd at *
    have s14 := Same.new (o := .tup [V.int s2, V.int l2, V.int pa, V.int dd, V.str rm.str, V.bl (decide (V.int d13 = V.int 1)), V.str bt.str]) hp
    have e1 : (2 : Int) ^ 300 < 2 ^ 302 := by decide
    have e2 : (10 : Int) ^ 30 < 2 ^ 300 := by decide
    refine q p ⟨s2, l2, pa, dd, rm, decide (V.int d13 = V.int 1), bt⟩ _ (O13.trans (Oth.of s14)) hp0 upd_same ⟨⟨hs2.1, hl2.1, hpa.1, by show 0 ≤ dd; omega, ⟨by show s2 < _; omega, by show l2 < _; omega, by show pa < _; omega, by show dd < _; omega⟩⟩, by show s2.natAbs < _; omega, by show l2.natAbs < _; omega, by show pa.natAbs < _; omega, by show dd.natAbs < _; omega⟩ (by show pa ≤ 3 * s2 + 1 ∨ pa ≤ 3 * l2 + 1; omega) ((F13.ex s14).mono (by omega))
theorem u_rus {H : Hp} {Q : VK} {E : XK} {f : Addr} {n : Nat} (h : FtAt H f n) (hn : n ≤ 100000) (q : ∀ p r H', Oth f H H' → H p = none → H' p = some (.tup r.vs) → RlT r → PauB r → FtAt H' f (n + 30) → Q (.ref p) H') : spRus K [.ref f] H Q E := ⟨f, n, rfl, h, hn, q⟩
end
end
section
section
variable {P : Program} {w : World} {K : PySem.W.Frag} {mg : Str → Option Value} {base : Heap}
local macro_rules | `(tactic| walk_at "r1") => `(tactic| first | with_reducible refine r_gsub ?_ | with_reducible refine r_stepL ?_)
def spStp (K : PySem.W.Frag) : Sp := fun vs H Q _ => ∃ (f ar : Addr) (r : Rl) (n : Nat), vs = [.ref f, .ref ar] ∧ FtAt H f n ∧ H ar = some (.tup r.vs) ∧ RlT r ∧ n ≤ 100000 ∧ ∀ d H', 0 ≤ d → d ≤ 10 ^ 33 → d ≤ 20 * (r.s + r.p) → Oth f H H' → FtAt H' f (n + 3) → Q (.int d) H'
theorem ok_law_step (T : Txt K mg) : C8.Cal P w K mg base 2 "_law_step" (spStp K) [] := by
  refine calD (D_law_step T) (T_law_step T) sc_law_step (fun _ _ _ _ _ _ us hl => match us, hl with | [_, _], _ => rfl) (fun vs H Q E h => ?_) (fun cdv A outer s H vs Q E hr h => ?_)
  · obtain ⟨_, _, _, _, rfl, _⟩ := h
    rfl
  · have hu := hu_of hr
    refine ⟨_, (pss_cons (ps_asg (pe_slice sl_tup (pv 1) po_none (po_some pe_int)) (pg_tup (n := 4) rfl (pgs_cons (pg_name (i := 2) sc_law_step.nd rfl (Or.inl rfl)) (pgs_cons (pg_name (i := 3) sc_law_step.nd rfl (Or.inl rfl)) (pgs_cons (pg_name (i := 4) sc_law_step.nd rfl (Or.inl rfl)) (pgs_cons (pg_name (i := 5) sc_law_step.nd rfl (Or.inl rfl)) pgs_nil))))))
      (pss_cons (ps_set (i := 6) sc_law_step.nd rfl (Or.inl rfl) (pe_op op_add (pe_callB (cq_min rfl) (by rfl) (T_min T) (by decide +kernel) (pa_cons (pv 2) (pa_cons (pv 3) pa_nil))) (pv 4)))
      (pss_cons (ps_set (i := 7) sc_law_step.nd rfl (Or.inl rfl) (pe_lst (pa_cons pe_int (pa_cons pe_int (pa_cons (pv 2) (pa_cons (pv 3) (pa_cons (pe_op op_add (pv 2) (pv 4)) (pa_cons (pe_op op_add (pv 3) (pv 4)) (pa_cons (pv 5) (pa_cons (pe_op op_add (pe_op op_add (pv 2) (pv 3)) (pe_op op_mul pe_int (pv 4))) (pa_cons (C8.pe_c (ok_law_draw T) hr (by decide) rfl (pa_cons (pv 0) (pa_cons (pe_op op_mul pe_int (pv 6)) pa_nil))) pa_nil)))))))))))
      (pss_one (ps_ret (pe_callB (cq_max rfl) (by rfl) (T_max T) (by decide +kernel) (pa_cons pe_int (pa_cons (pe_callB (cq_min rfl) (by rfl) (T_min T) (by decide +kernel) (pa_cons (pe_op op_sub (pe_op op_add (pe_ix ix_list (pv 7) (C8.pe_c (ok_law_draw T) hr (by decide) rfl (pa_cons (pv 0) (pa_cons pe_int pa_nil))) (fun _ _ => rfl)) (C8.pe_c (ok_law_draw T) hr (by decide) rfl (pa_cons (pv 0) (pa_cons pe_int pa_nil)))) pe_int) (pa_cons (pe_op op_mul pe_int (pv 6)) pa_nil))) pa_nil)))))))), ?_⟩
    walk_at "cx"
    obtain ⟨f, ar, r, n, rfl, hF, har, rt, hn, q⟩ := h
    have b1 := rt.b1
    have b2 := rt.b2
    have b3 := rt.b3
    have b4 := rt.b4
    have o1 := rt.ok.s1
    have o2 := rt.ok.l1
    have o3 := rt.ok.p1
    have o4 := rt.ok.d0
    walk_at "rd"
    rename_i t ht
    have hc : cutV r.vs none (some 4) = [V.int r.s, V.int r.l, V.int r.p, V.int r.d] := rfl
    rw [hc]
    have F0 := hF.ex (Same.new (o := .tup [V.int r.s, V.int r.l, V.int r.p, V.int r.d]) ht)
    have O0 := Oth.of (f := f) (Same.new (o := .tup [V.int r.s, V.int r.l, V.int r.p, V.int r.d]) ht)
    walk_at "rd"
    obtain ⟨m1, m2, m3⟩ := minI (a := r.s) (b := r.l)
    generalize (if r.l < r.s then r.l else r.s) = mn at *
    refine r_I (.inl ⟨by decide, by decide⟩) ?_
    walk_at "rd"
    refine r_I (.inl ⟨by decide, by decide⟩) ?_
    walk_at "rd"
    refine u_drw F0 (by omega) (by omega) (by omega) fun d1 H1 a1 c1 p1 F1 => ?_
    have O1 := O0.trans p1
    walk_at "rd"
    rename_i l hl
    have nl := F1.ne hl
    have O2 := O1.trans (Oth.of (f := f) (Same.new (o := .lst [V.int 0, V.int 1, V.int r.s, V.int r.l, V.int (r.s + r.p), V.int (r.l + r.p), V.int r.d, V.int (r.s + r.l + 2 * r.p), V.int d1]) hl))
    refine u_drw (F1.ex (Same.new hl)) (by decide) (by decide) (by omega) fun d2 H2 a2 c2 p2 F2 => ?_
    have O3 := O2.trans p2
    have e2 := p2 _ _ nl upd_same
    obtain ⟨x2, hx2, hm2⟩ := at_in (xs := [V.int 0, V.int 1, V.int r.s, V.int r.l, V.int (r.s + r.p), V.int (r.l + r.p), V.int r.d, V.int (r.s + r.l + 2 * r.p), V.int d1]) a2 c2
    obtain ⟨s0, rfl, g1, g2⟩ := int_in (is := [0, 1, r.s, r.l, r.s + r.p, r.l + r.p, r.d, r.s + r.l + 2 * r.p, d1]) (lo := 0) (hi := 10 ^ 32) hm2 (fun i hi => by
      simp only [List.mem_cons, List.not_mem_nil, or_false] at hi
      rcases hi with rfl | rfl | rfl | rfl | rfl | rfl | rfl | rfl | rfl <;> omega)
    walk_at "rd"
    refine u_drw F2 (by decide) (by decide) (by omega) fun d3 H3 a3 c3 p3 F3 => ?_
    have O4 := O3.trans p3
    walk_at "rd"
    refine r_I (.inl ⟨by decide, by decide⟩) ?_
    walk_at "rd"
    obtain ⟨m4, m5, m6⟩ := minI (a := s0 + d3 - 1) (b := 20 * mn + 20 * r.p)
    exact q _ _ (by split <;> split <;> omega) (by split <;> split <;> omega) (by split <;> split <;> omega) O4 F3
theorem u_stp {H : Hp} {Q : VK} {E : XK} {f ar : Addr} {r : Rl} {n : Nat} (hF : FtAt H f n) (har : H ar = some (.tup r.vs)) (rt : RlT r) (hn : n ≤ 100000) (q : ∀ d H', 0 ≤ d → d ≤ 10 ^ 33 → d ≤ 20 * (r.s + r.p) → Oth f H H' → FtAt H' f (n + 3) → Q (.int d) H') : spStp K [.ref f, .ref ar] H Q E := ⟨f, ar, r, n, rfl, hF, har, rt, hn, q⟩
end
end
section
section
variable {P : Program} {w : World} {K : PySem.W.Frag} {mg : Str → Option Value} {base : Heap}
theorem r_rng1 {ta : TA} {σ : L2.St} {H : Hp} {R : It → Hp → Prop} (h : ta σ H fun vs H1 => ∃ j : Int, vs = [.int j] ∧ -(2 ^ 62) ≤ j ∧ j < 2 ^ 62 ∧ R (Itr 0 j.toNat) H1) : iRng1 ta σ H R := h
local macro_rules | `(tactic| walk_at "r1") => `(tactic| first | with_reducible refine r_gsub ?_ | with_reducible refine r_stepL ?_ | with_reducible refine r_rng1 ?_)
/-! ### a record that grows -/
structure RecW (f : Addr) (H0 H : Hp) (L D : Addr) (xs : List V) (es : List Ev) (dn : List Kd) (n : Nat) : Prop where
  o : Oth f H0 H
  F : FtAt H f n
  L0 : H0 L = none
  Lf : L ≠ f
  hL : H L = some (.lst xs)
  hR : Rows H evV xs es
  hD : H D = some (.lst (dn.map kv))
  LD : L ≠ D
  Df : D ≠ f
section
variable {f L D : Addr} {H0 H H' : Hp} {xs : List V} {es : List Ev} {dn : List Kd} {n m : Nat}
theorem RecW.oth (R : RecW f H0 H L D xs es dn n) (o : Oth f H H') (F' : FtAt H' f m) : RecW f H0 H' L D xs es dn m :=
  ⟨R.o.trans o, F', R.L0, R.Lf, o _ _ R.Lf R.hL, R.hR.tup fun a xs e => o a _ (R.F.ne_t e) e, o _ _ R.Df R.hD, R.LD, R.Df⟩
theorem RecW.ext (R : RecW f H0 H L D xs es dn n) (s : Same H H') : RecW f H0 H' L D xs es dn n := R.oth (Oth.of s) (R.F.ex s)
theorem RecW.push {t : Addr} {e : Ev} (R : RecW f H0 H L D xs es dn n) (ht : H t = some (.tup (evV e))) : RecW f H0 (upd H L (.lst (xs ++ [.ref t]))) L D (xs ++ [.ref t]) (es ++ [e]) dn n :=
  ⟨fun a o ne h => by
    have hL : a ≠ L := fun z => by rw [z, R.L0] at h; cases h
    rw [upd_ne hL]
    exact R.o a o ne h, by
    obtain ⟨a, b, c, e1, q⟩ := R.F
    exact ⟨a, b, c, by rw [upd_ne R.Lf.symm]; exact e1, q⟩, R.L0, R.Lf, upd_same, (R.hR.app (Rows.one ht)).tup (STup.mutL R.hL), by rw [upd_ne R.LD.symm]; exact R.hD, R.LD, R.Df⟩
theorem RecW.down {D' : Addr} {dn' : List Kd} (R : RecW f H0 H L D xs es dn n) (h : H D' = some (.lst (dn'.map kv))) (h1 : L ≠ D') (h2 : D' ≠ f) : RecW f H0 H L D' xs es dn' n := ⟨R.o, R.F, R.L0, R.Lf, R.hL, R.hR, h, h1, h2⟩
theorem RecW.nl {p : Addr} (R : RecW f H0 H L D xs es dn n) (h : H p = none) : L ≠ p := fun z => by rw [← z, R.hL] at h; cases h
theorem RecW.nf {p : Addr} (R : RecW f H0 H L D xs es dn n) (h : H p = none) : p ≠ f := R.F.ne h
end
theorem sl_at {d : Int} (h0 : 0 ≤ d) (h1 : d < 2) : ∃ (c : Nat) (k : Kd), atI ("sl" : Str).cps.toList d = some c ∧ (⟨#[c]⟩ : Str) = k.str := by
  rcases (show d = 0 ∨ d = 1 by omega) with rfl | rfl
  · exact ⟨115, .s, by decide +kernel, by decide +kernel⟩
  · exact ⟨108, .l, by decide +kernel, by decide +kernel⟩
theorem dec_kv {a k : Kd} : decide (kv a = kv k) = decide (a = k) := by cases a <;> cases k <;> decide +kernel
theorem kv_scal (a k : Kd) : scal (kv a) (kv k) = true := rfl
theorem rep_one {k : Kd} {b : Bool} : (List.replicate ((if b = true then (1 : Int) else 0)).toNat [kv k]).flatten = ((if b = true then [k] else [] : List Kd)).map kv := by cases b <;> rfl
theorem r_rep {l : Addr} {k : Int} {xs : List V} {H : Hp} {Q : VK} (hH : H l = some (.lst xs)) (h1 : 0 ≤ k) (h2 : k ≤ 1000) (h3 : xs.length ≤ 1000) (q : ∀ p, H p = none → Q (.ref p) (upd H p (.lst (List.replicate k.toNat xs).flatten))) : rRep (.ref l) (.int k) H Q := by
  refine ⟨l, k, xs, rfl, rfl, hH, by omega, by omega, ?_, q⟩
  have h4 : k.toNat ≤ 1000 := by omega
  exact Nat.le_trans (Nat.mul_le_mul h3 h4) (by decide)
theorem r_cat {l b : Addr} {xs zs : List V} {H : Hp} {Q : VK} (h1 : H l = some (.lst xs)) (h2 : H b = some (.lst zs)) (hs : xs.length + zs.length ≤ 1000000) (q : ∀ p, H p = none → Q (.ref p) (upd H p (.lst (xs ++ zs)))) : rCat (.ref l) (.ref b) H Q := ⟨l, b, xs, zs, rfl, rfl, h1, h2, Nat.le_trans hs (by decide), q⟩
/-- events with their ticks up to a bound -/
structure RecP (G : Int) (es : List Ev) (tick : Int) (dn : List Kd) (i : Nat) : Prop where
  gp : ∀ (j : Nat) (e e' : Ev), es[j]? = some e → es[j + 1]? = some e' → e'.1 ≤ e.1 + G
  gl : ∀ (j : Nat) (e : Ev), j + 1 = es.length → es[j]? = some e → tick ≤ e.1 + G
  st : ∃ l, recSt none [] es = some (l, dn) ∧ ∀ t0, l = some t0 → t0 ≤ tick
  len : es.length ≤ i
  tk : ∀ e ∈ es, e.1.natAbs ≤ 20 + 10 ^ 33 * i
  tt : tick.natAbs ≤ 20 + 10 ^ 33 * i
theorem RecP.step {G : Int} {es : List Ev} {tick d : Int} {dn : List Kd} {i : Nat} {k : Kd} {b : Bool} (R : RecP G es tick dn i) (hb : b = !decide (k ∈ dn)) (d0 : 0 ≤ d) (d1 : d ≤ 10 ^ 33) (dG : d ≤ G) : RecP G (es ++ [(tick, k, b)]) (tick + d) (stepDn dn (tick, k, b)) (i + 1) := by
  obtain ⟨l, h1, h2⟩ := R.st
  have h3 := R.tt
  refine ⟨fun j e e' he he' => ?_, fun j e hj he => ?_, ⟨some tick, recSt_snoc h1 h2 hb, fun t0 e => by cases e; omega⟩, by rw [List.length_append]; have := R.len; simp; omega, fun e he => ?_, by omega⟩
  · rcases Nat.lt_or_ge (j + 1) es.length with hl | hl
    · rw [List.getElem?_append_left (by omega)] at he
      rw [List.getElem?_append_left hl] at he'
      exact R.gp j e e' he he'
    · rw [List.getElem?_append_right hl] at he'
      have h4 := (List.getElem?_eq_some_iff.mp he').1
      have h5 : j + 1 = es.length := by simp at h4; omega
      rw [show j + 1 - es.length = 0 by omega] at he'
      cases he'
      rw [List.getElem?_append_left (by omega)] at he
      exact R.gl j e h5 he
  · rw [List.length_append] at hj
    have hj2 : j = es.length := by simp at hj; omega
    rw [hj2, List.getElem?_append_right (Nat.le_refl _), Nat.sub_self] at he
    cases he
    show tick + d ≤ tick + G
    omega
  · rcases List.mem_append.mp he with he | he
    · have := R.tk e he
      omega
    · rw [List.mem_singleton.mp he]
      show tick.natAbs ≤ _
      omega
def spRcd (K : PySem.W.Frag) : Sp := fun vs H Q _ => ∃ (f ar : Addr) (r : Rl) (n : Nat) (most : Int), vs = [.ref f, .ref ar, .int most] ∧ FtAt H f n ∧ H ar = some (.tup r.vs) ∧ RlT r ∧ 2 ≤ most ∧ most ≤ 20 ∧ n ≤ 50000 ∧
  ∀ p xs es H', Oth f H H' → H p = none → H' p = some (.lst xs) → Rows H' evV xs es → RecOk es → es.length ≤ 22 → (∀ e ∈ es, e.1.natAbs ≤ 10 ^ 35) → (∀ (j : Nat) (e e' : Ev), es[j]? = some e → es[j + 1]? = some e' → e'.1 ≤ e.1 + 20 * (r.s + r.p)) → FtAt H' f (n + 200) → Q (.ref p) H'
theorem ok_law_record (T : Txt K mg) : C8.Cal P w K mg base 3 "_law_record" (spRcd K) [] := by
  refine calD (D_law_record T) (T_law_record T) sc_law_record (fun _ _ _ _ _ _ us hl => match us, hl with | [_, _, _], _ => rfl) (fun vs H Q E h => ?_) (fun cdv A outer s H vs Q E hr h => ?_)
  · obtain ⟨_, _, _, _, _, rfl, _⟩ := h
    rfl
  · have hu := hu_of hr
    refine ⟨_, (pss_cons (ps_par3 rfl sc_law_record.nd (i := 3) (j := 4) (l := 5) rfl rfl rfl (by decide) (by decide) (by decide) rfl rfl rfl (pa_cons (pe_lst pa_nil) (pa_cons (pe_lst pa_nil) (pa_cons (pe_op op_sub (C8.pe_c (ok_law_draw T) hr (by decide) rfl (pa_cons (pv 0) (pa_cons pe_int pa_nil))) pe_int) pa_nil))) rfl)
      (pss_cons (ps_for PassesOwn.never rfl (pi_range1 (by rfl) (T_range T) (pa_cons (C8.pe_c (ok_law_draw T) hr (by decide) rfl (pa_cons (pv 0) (pa_cons (pe_op op_sub (pv 2) pe_int) pa_nil))) pa_nil)) (pg_name (i := 6) sc_law_record.nd rfl (Or.inl rfl))
      (pss_cons (ps_set (i := 7) sc_law_record.nd rfl (Or.inr rfl) (pe_ix ix_str pe_str (C8.pe_c (ok_law_draw T) hr (by decide) rfl (pa_cons (pv 0) (pa_cons pe_int pa_nil))) (fun _ _ => rfl)))
      (pss_cons (ps_expr (pe_bm PySem.F.plainAttrs_list PySem.F.slot_list_append PySem.F.type_list_append mt_append (pv 3) (pa_cons (pe_tup (pa_cons (pv 5) (pa_cons (pv 7) (pa_cons (pe_cmpR op_notIn_seq (pv 7) (pv 4) (by rfl)) pa_nil)))) pa_nil)))
      (pss_cons (ps_set (i := 8) sc_law_record.nd rfl (Or.inl rfl) (pe_op op_rep (pe_lst (pa_cons (pv 7) pa_nil)) (pe_callTy cq_int1 (by rfl) (T_int T) (by decide +kernel) (pa_cons (pe_cmpR op_notIn_seq (pv 7) (pv 4) (by rfl)) pa_nil))))
      (pss_cons (ps_set (i := 4) sc_law_record.nd rfl (Or.inl rfl) (pe_op op_cat (pe_lc (own := [("other", 9)]) rfl sc_law_record.nd (pi_list (pv 4)) (blkOk_by (own := [("other", 9)]) (N := ["spring", "rules", "most", "found", "down", "tick", "turn", "lever", "more", "other"]) (sc := defScope s_law_record) (by decide +kernel)) (fun _ _ _ _ _ => (pg_name (i := 9) sc_law_record.nd rfl (Or.inl rfl))) (fun _ _ _ _ _ => (pts_one (pt_cmpR op_ne (pv 9) (pv 7) (nomark _)))) (fun _ _ _ _ _ => (pv 9))) (pv 8)))
      (pss_one (ps_set (i := 5) sc_law_record.nd rfl (Or.inl rfl) (pe_op op_add (pv 5) (C8.pe_c (ok_law_step T) hr (by decide) rfl (pa_cons (pv 0) (pa_cons (pv 1) pa_nil)))))))))))
      (pss_cons (ps_for PassesOwn.never rfl (pi_list (pe_stepL (pv 4) po_none po_none (pe_ix ix_list (pe_lst (pa_cons pe_int (pa_cons (pe_un un_neg pe_int) pa_nil))) (C8.pe_c (ok_law_draw T) hr (by decide) rfl (pa_cons (pv 0) (pa_cons pe_int pa_nil))) (fun _ _ => rfl)))) (pg_name (i := 7) sc_law_record.nd rfl (Or.inr rfl))
      (pss_cons (ps_expr (pe_bm PySem.F.plainAttrs_list PySem.F.slot_list_append PySem.F.type_list_append mt_append (pv 3) (pa_cons (pe_tup (pa_cons (pv 5) (pa_cons (pv 7) (pa_cons pe_bl pa_nil)))) pa_nil)))
      (pss_one (ps_set (i := 5) sc_law_record.nd rfl (Or.inl rfl) (pe_op op_add (pv 5) (C8.pe_c (ok_law_step T) hr (by decide) rfl (pa_cons (pv 0) (pa_cons (pv 1) pa_nil))))))))
      (pss_one (ps_ret (pv 3)))))), ?_⟩
    walk_at "cx"
    obtain ⟨f, ar, r, n, most, rfl, hF, har, rt, m2, m20, hn, q⟩ := h
    walk_at "rd"
    rename_i L hL D hD
    have sLD := (Same.new (o := .lst []) hL).trans (Same.new (o := .lst []) hD)
    have R0 : RecW f H (upd (upd H L (.lst [])) D (.lst [])) L D [] [] [] n := ⟨Oth.of sLD, hF.ex sLD, hL, hF.ne hL, Same.new hD _ _ upd_same, .nil, upd_same, (ne_of_n upd_same hD), (hF.ex (Same.new hL)).ne hD⟩
    refine u_drw R0.F (by decide) (by decide) (by omega) fun d0 H1 a0 c0 o0 F0 => ?_
    have R1 := R0.oth o0 F0
    have har1 := o0 _ _ (R0.F.ne_t (sLD _ _ har)) (sLD _ _ har)
    clear R0
    walk_at "rd"
    refine u_drw R1.F (by omega) (by omega) (by omega) fun d1 H2 a1 c1 o1 F1 => ?_
    have R2 := R1.oth o1 F1
    have har2 := o1 _ _ (R1.F.ne_t har1) har1
    clear R1
    walk_at "rd"
    refine ⟨_, rfl, by omega, by omega, ?_⟩
    refine for_it walk_range (fun i σ Ha => ∃ (D : Addr) (tick : Int) (v6 v7 v8 v9 : Option V) (xs : List V) (es : List Ev) (dn : List Kd), σ = [some (.ref f), some (.ref ar), some (.int most), some (.ref L), some (.ref D), some (.int tick), v6, v7, v8, v9] ∧ RecW f H Ha L D xs es dn (n + 2 + 4 * i) ∧ RecP (20 * (r.s + r.p)) es tick dn i ∧ Ha ar = some (.tup r.vs)) ⟨_, _, _, _, _, _, _, _, _, rfl, R2, ⟨fun j e e' he => (by cases he), fun j e hj => (by cases hj), ⟨none, rfl, fun t0 e => (by cases e)⟩, Nat.le_refl _, fun e he => (by cases he), (by omega)⟩, har2⟩ (fun _ _ _ _ _ => trivial) ?_ ?_
    · clear R2 har2 har1 o0 o1 F0 F1 sLD hL hD
      rintro i y σ Ha Hb hi ⟨D, tick, v6, v7, v8, v9, xs, es, dn, rfl, R, Pp, har3⟩ hy
      obtain ⟨rfl, rfl⟩ := hy
      have hi20 : i < 20 := by omega
      have hnd : dn.length ≤ 2 := by
        obtain ⟨l, h1, _⟩ := Pp.st
        rcases kd_two (recSt_nodup List.nodup_nil h1) with e | e | e | e | e <;> rw [e] <;> decide
      walk_at "rd"
      refine u_drw R.F (by decide) (by decide) (by omega) fun d2 H3 a2 c2 o2 F2 => ?_
      have R3 := R.oth o2 F2
      have har4 := o2 _ _ (R.F.ne_t har3) har3
      obtain ⟨c, k, hc, hck⟩ := sl_at a2 c2
      refine r_ixSE (by decide +kernel) hc ?_
      rw [hck]
      clear R
      have hD3 := R3.hD
      have hL3 := R3.hL
      have hfl : (dn.map kv).all flatV = true := kv_flat
      walk_at "rd"
      rename_i t ht
      rw [show V.str k.str = kv k from rfl, in_kv]
      have R4 := R3.ext (Same.new (o := .tup [V.int tick, kv k, V.bl (!decide (k ∈ dn))]) ht)
      have har5 := Same.new (o := .tup [V.int tick, kv k, V.bl (!decide (k ∈ dn))]) ht _ _ har4
      refine r_append R4.hL (by rw [R4.hR.len]; exact Nat.lt_of_le_of_lt (show es.length ≤ 100 by have := Pp.len; omega) (by decide)) ?_
      have R5 := R4.push (t := t) (e := (tick, k, !decide (k ∈ dn))) upd_same
      have har6 := STup.mutL (o := .lst (xs ++ [V.ref t])) R4.hL _ _ har5
      generalize upd (upd H3 t (.tup [V.int tick, kv k, V.bl (!decide (k ∈ dn))])) L (.lst (xs ++ [V.ref t])) = H5 at *
      clear R4 R3 har4 har5 ht hD3 hL3
      have hD5 := R5.hD
      walk_at "rd"
      rename_i l6 hl6
      rw [in_kv]
      have R6 := R5.ext (Same.new (o := .lst [kv k]) hl6)
      have har7 := Same.new (o := .lst [kv k]) hl6 _ _ har6
      refine r_rep (xs := [kv k]) upd_same (by split <;> decide) (by split <;> decide) (by show 1 ≤ 1000; decide) fun l7 hl7 => ?_
      rw [rep_one]
      have R7 := R6.ext (Same.new (o := .lst (((if (!decide (k ∈ dn)) = true then [k] else [] : List Kd)).map kv)) hl7)
      have har8 := Same.new (o := .lst (((if (!decide (k ∈ dn)) = true then [k] else [] : List Kd)).map kv)) hl7 _ _ har7
      have hm7 : upd (upd H5 l6 (.lst [kv k])) l7 (.lst (((if (!decide (k ∈ dn)) = true then [k] else [] : List Kd)).map kv)) l7 = some (.lst (((if (!decide (k ∈ dn)) = true then [k] else [] : List Kd)).map kv)) := upd_same
      generalize upd (upd H5 l6 (.lst [kv k])) l7 (.lst (((if (!decide (k ∈ dn)) = true then [k] else [] : List Kd)).map kv)) = H7 at *
      clear R6 R5 har7 har6 hl6 hl7 hD5
      have hD7 := R7.hD
      walk_at "rd"
      rename_i C hC
      refine lc_it walk_list (fun j H' => Same H7 H' ∧ H' C = some (.lst (((dn.take j).filter fun o => decide (o ≠ k)).map kv))) ⟨Same.new hC, upd_same⟩ (fun _ _ _ z => SqL.of (z.1 _ _ R7.hD)) (fun j y Hc Hd hj hs hy => ?_) (fun Hc hs => ?_)
      · obtain ⟨s4, h4⟩ := hs
        obtain ⟨rfl, hc⟩ := hy
        rw [List.getElem?_map] at hc
        obtain ⟨z, hz, rfl⟩ := Option.map_eq_some_iff.mp hc
        have hj2 : j < sizeLine := by
          have h1 := (List.getElem?_eq_some_iff.mp hz).1
          exact Nat.lt_of_lt_of_le (show j < 100 by omega) (by decide)
        walk_at "rd"
        rw [dec_kv]
        by_cases hzk : z = k
        · refine r_ifF (by rw [decide_eq_true hzk]; rfl) ?_
          exact lc_drop s4 h4 hz (decide_eq_false fun e => e hzk)
        · refine r_ifT (by rw [decide_eq_false hzk]; rfl) ?_
          walk_at "rd"
          exact lc_keep hC s4 h4 hj2 hz (Same.refl _) (decide_eq_true hzk) rfl
      · obtain ⟨s4, h4⟩ := hs
        rw [List.length_map, List.take_length] at h4
        have hm8 := s4 _ _ hm7
        have R8 := R7.ext s4
        have har9 := s4 _ _ har8
        walk_at "rd"
        refine r_cat h4 hm8 ?_ fun D2 hD2 => ?_
        · have h5 := List.length_filter_le (fun o => decide (o ≠ k)) dn
          have h6 : (if (!decide (k ∈ dn)) = true then [k] else [] : List Kd).length ≤ 1 := by
            split
            · exact Nat.le_refl 1
            · exact Nat.zero_le 1
          rw [List.length_map, List.length_map]
          omega
        rw [← List.map_append, show dn.filter (fun o => decide (o ≠ k)) ++ (if (!decide (k ∈ dn)) = true then [k] else []) = stepDn dn (tick, k, !decide (k ∈ dn)) from (stepDn_py (t := tick) rfl).symm]
        have R9 := (R8.ext (Same.new (o := .lst ((stepDn dn (tick, k, !decide (k ∈ dn))).map kv)) hD2)).down (D' := D2) (dn' := stepDn dn (tick, k, !decide (k ∈ dn))) upd_same (R8.nl hD2) (R8.nf hD2)
        have har10 := Same.new (o := .lst ((stepDn dn (tick, k, !decide (k ∈ dn))).map kv)) hD2 _ _ har9
        generalize upd Hc D2 (.lst ((stepDn dn (tick, k, !decide (k ∈ dn))).map kv)) = H9 at *
        clear R8 R7 har9 har8 h4 hm8 hD7
        walk_at "rd"
        refine u_stp R9.F har10 rt (by omega) fun d10 H10 a10 c10 g10 o10 F10 => ?_
        walk_at "rd"
        exact ⟨_, _, _, _, _, _, _, _, _, rfl, R9.oth o10 (F10.mono (by omega)), Pp.step rfl a10 c10 g10, o10 _ _ (R9.F.ne_t har10) har10⟩
    · rintro σ Ha ⟨D, tick, v6, v7, v8, v9, xs, es, dn, rfl, R, Pp, har3⟩
      clear R2 har2 har1 o0 o1 F0 F1 sLD hL hD
      have hnd : dn.Nodup := by
        obtain ⟨l, h1, _⟩ := Pp.st
        exact recSt_nodup List.nodup_nil h1
      have hnl : dn.length ≤ 2 := by rcases kd_two hnd with e | e | e | e | e <;> rw [e] <;> decide
      have hd1 : d1.toNat ≤ 19 := by omega
      generalize d1.toNat = M at *
      walk_at "rd"
      rename_i l1 hl1
      have R1 := R.ext (Same.new (o := .lst [V.int 1, V.int (-1)]) hl1)
      have har4 := Same.new (o := .lst [V.int 1, V.int (-1)]) hl1 _ _ har3
      have hl1f := R.nf hl1
      refine u_drw R1.F (by decide) (by decide) (by omega) fun d2 H3 a2 c2 o2 F2 => ?_
      have e3 := o2 _ _ hl1f upd_same
      have R3 := R1.oth o2 F2
      have har5 := o2 _ _ (R1.F.ne_t har4) har4
      obtain ⟨x3, hx3, hm3⟩ := at_in (xs := [V.int 1, V.int (-1)]) a2 c2
      obtain ⟨zs, hzn, hzm, hzz, hz0⟩ : ∃ zs : List Kd, zs.Nodup ∧ (∀ k, k ∈ zs ↔ k ∈ dn) ∧ (∃ st : Int, x3 = .int st ∧ st ≠ 0 ∧ pickV (dn.map kv) none none (some st) = zs.map kv) ∧ zs.length = dn.length := by
        simp only [List.mem_cons, List.not_mem_nil, or_false] at hm3
        rcases hm3 with rfl | rfl
        · exact ⟨dn, hnd, fun k => Iff.rfl, ⟨1, rfl, by decide, pick_one _⟩, rfl⟩
        · exact ⟨dn.reverse, (by rcases kd_two hnd with e | e | e | e | e <;> rw [e] <;> decide), fun k => List.mem_reverse, ⟨-1, rfl, by decide, by rw [pick_rev, List.map_reverse]⟩, List.length_reverse⟩
      obtain ⟨st, rfl, st0, hpk⟩ := hzz
      refine r_ixL (SqL.of e3) hx3 ?_
      refine ⟨st, rfl, D, _, st, rfl, rfl, st0, SqL.of R3.hD, fun Z hZ => ?_⟩
      rw [hpk]
      have R4 := R3.ext (Same.new (o := .lst (zs.map kv)) hZ)
      have har6 := Same.new (o := .lst (zs.map kv)) hZ _ _ har5
      have nLZ := R3.nl hZ
      have nZf := R3.nf hZ
      walk_at "rd"
      refine for_it walk_list (fun i σ Ha => ∃ (tick : Int) (v7 : Option V) (xs : List V) (es : List Ev) (dc : List Kd), σ = [some (.ref f), some (.ref ar), some (.int most), some (.ref L), some (.ref D), some (.int tick), v6, v7, v8, v9] ∧ RecW f H Ha L D xs es dn (n + 2 + 4 * M + 1 + 3 * i) ∧ RecP (20 * (r.s + r.p)) es tick dc (M + i) ∧ Ha ar = some (.tup r.vs) ∧ Ha Z = some (.lst (zs.map kv)) ∧ ∀ k, k ∈ dc ↔ k ∈ zs.drop i) ⟨_, _, _, _, dn, rfl, R4, Pp, har6, upd_same, fun k => (hzm k).symm⟩ (fun i σ Ha _ z => by obtain ⟨_, _, _, _, _, _, _, _, _, z, _⟩ := z; exact SqL.of z) ?_ ?_
      · clear R4 R3 R1 R har6 har5 har4 har3 Pp hl1 e3 hx3 hm3
        rintro i y σ Ha Hb hi ⟨tick, v7, xs, es, dc, rfl, R, Pp, har3, hZ2, hdc⟩ ⟨rfl, hy⟩
        rw [List.getElem?_map] at hy
        obtain ⟨k, hk, rfl⟩ := Option.map_eq_some_iff.mp hy
        rw [List.length_map] at hi
        have hkd : zs.drop i = k :: zs.drop (i + 1) := drop_cons hk
        have hkc : k ∈ dc := (hdc k).mpr (by rw [hkd]; exact List.mem_cons_self ..)
        have hL3 := R.hL
        walk_at "rd"
        rename_i t ht
        have R4 := R.ext (Same.new (o := .tup [V.int tick, kv k, V.bl false]) ht)
        have har5 := Same.new (o := .tup [V.int tick, kv k, V.bl false]) ht _ _ har3
        have hZ3 := Same.new (o := .tup [V.int tick, kv k, V.bl false]) ht _ _ hZ2
        refine r_append R4.hL (by rw [R4.hR.len]; exact Nat.lt_of_le_of_lt (show es.length ≤ 100 by have := Pp.len; omega) (by decide)) ?_
        have R5 := R4.push (t := t) (e := (tick, k, false)) upd_same
        have har6 := STup.mutL (o := .lst (xs ++ [V.ref t])) R4.hL _ _ har5
        have hZ4 : upd (upd Hb t (.tup [V.int tick, kv k, V.bl false])) L (.lst (xs ++ [V.ref t])) Z = some (.lst (zs.map kv)) := by rw [upd_ne nLZ.symm]; exact hZ3
        generalize upd (upd Hb t (.tup [V.int tick, kv k, V.bl false])) L (.lst (xs ++ [V.ref t])) = H5 at *
        clear R4 R har3 har5 ht hL3
        walk_at "rd"
        refine u_stp R5.F har6 rt (by omega) fun d10 H10 a10 c10 g10 o10 F10 => ?_
        walk_at "rd"
        refine ⟨_, _, _, _, stepDn dc (tick, k, false), rfl, R5.oth o10 (F10.mono (by omega)), Pp.step (by simp [hkc]) a10 c10 g10, o10 _ _ (R5.F.ne_t har6) har6, o10 _ _ nZf hZ4, fun j => ?_⟩
        rw [stepDn_mem, hdc j, hkd]
        have hnn : (k :: zs.drop (i + 1)).Nodup := by rw [← hkd]; exact List.Nodup.sublist (List.drop_sublist _ _) hzn
        have hk2 := (List.nodup_cons.mp hnn).1
        show (j ∈ k :: zs.drop (i + 1) ∧ j ≠ k) ↔ j ∈ zs.drop (i + 1)
        constructor
        · rintro ⟨h1, h2⟩
          exact (List.mem_cons.mp h1).resolve_left h2
        · intro h1
          exact ⟨List.mem_cons_of_mem _ h1, fun e => hk2 (e ▸ h1)⟩
      · rintro σ Ha ⟨tick2, v7, xs2, es2, dc, rfl, R9, Pp9, har9, hZ9, hdc⟩
        rw [List.length_map] at R9 Pp9 hdc
        rw [List.drop_length] at hdc
        have hdc0 : dc = [] := List.eq_nil_iff_forall_not_mem.mpr fun k hk => by have := (hdc k).mp hk; cases this
        walk_at "rd"
        obtain ⟨l, h1, _⟩ := Pp9.st
        rw [hdc0] at h1
        have hl9 := Pp9.len
        exact q _ _ _ _ R9.o R9.L0 R9.hL R9.hR ⟨recGo_st.mpr ⟨l, h1⟩, by omega⟩ (by omega) (fun e he => by have := Pp9.tk e he; omega) Pp9.gp (R9.F.mono (by omega))
theorem u_rcd {H : Hp} {Q : VK} {E : XK} {f ar : Addr} {r : Rl} {n : Nat} {most : Int} (hF : FtAt H f n) (har : H ar = some (.tup r.vs)) (rt : RlT r) (m2 : 2 ≤ most) (m20 : most ≤ 20) (hn : n ≤ 50000)
  (q : ∀ p xs es H', Oth f H H' → H p = none → H' p = some (.lst xs) → Rows H' evV xs es → RecOk es → es.length ≤ 22 → (∀ e ∈ es, e.1.natAbs ≤ 10 ^ 35) → (∀ (j : Nat) (e e' : Ev), es[j]? = some e → es[j + 1]? = some e' → e'.1 ≤ e.1 + 20 * (r.s + r.p)) → FtAt H' f (n + 200) → Q (.ref p) H') : spRcd K [.ref f, .ref ar, .int most] H Q E := ⟨f, ar, r, n, most, rfl, hF, har, rt, m2, m20, hn, q⟩
end
end
section
section
variable {P : Program} {w : World} {K : PySem.W.Frag} {mg : Str → Option Value} {base : Heap}
local macro_rules | `(tactic| walk_at "r1") => `(tactic| first | with_reducible refine r_sumV ?_ | with_reducible refine r_listRg ?_)
/-! ### steps, counted -/
theorem swv : ∀ w : Sw, w.str ∈ (allSw.map Sw.str) := fun w => List.mem_map_of_mem (sw_all w)
def spCo (K : PySem.W.Frag) : Sp := fun vs H Q _ => ∃ (ar a : Addr) (r : Rl) (xs : List V) (es : List Ev), vs = [.ref ar, .ref a] ∧ SqT K H ar r.vs ∧ r.Ok ∧ SqL K H a xs ∧ Rows H evV xs es ∧ RecOk es ∧ RecGood r es ∧ ∀ p H', Same H H' → H' p = some (.dK (cntK (behind r es false).cnt)) → Q (.ref p) H'
theorem ok_counts_of (T : Txt K mg) : C8.Cal P w K mg base 10 "counts_of" (spCo K) [] := by
  refine calD (D_counts_of T) (T_counts_of T) sc_counts_of (fun _ _ _ _ _ _ us hl => match us, hl with | [_, _], _ => rfl) (fun vs H Q E h => ?_) (fun cdv A outer s H vs Q E hr h => ?_)
  · obtain ⟨_, _, _, _, _, rfl, _⟩ := h
    rfl
  · have hu := hu_of hr
    refine ⟨_, (pss_cons (ps_expr (C8.pe_c (ok_require_rules T) hr (by decide) rfl (pa_cons (pv 0) pa_nil)))
      (pss_cons (ps_expr (C8.pe_c (ok_require_record T) hr (by decide) rfl (pa_cons (pv 1) pa_nil)))
      (pss_one (ps_ret (pe_fld (C8.pe_c (ok_state_behind T) hr (by decide) rfl (pa_cons (pv 0) (pa_cons (pv 1) (pa_cons pe_bl pa_nil)))) rfl))))), ?_⟩
    walk_at "cx"
    obtain ⟨ar, a, r, xs, es, rfl, h1, ok, h2, hR, ho, hg, q⟩ := h
    walk_at "rd"
    refine u_reqR h1 ok fun H1 s1 => ?_
    walk_at "rd"
    refine u_reqRec (s1.seq h2) (hR.ex s1) ho fun H2 s2 => ?_
    walk_at "rd"
    have s3 := s1.trans s2
    refine u_sb (Same.tup s3 h1) ok (s3.seq h2) (hR.ex s3) hg.b fun p H3 s4 ⟨a1, S1⟩ => ?_
    walk_at "rd"
    exact q _ _ (s3.trans s4) S1.hC
theorem u_co {H : Hp} {Q : VK} {E : XK} {ar a : Addr} {r : Rl} {xs : List V} {es : List Ev} (h1 : SqT K H ar r.vs) (ok : r.Ok) (h2 : SqL K H a xs) (hR : Rows H evV xs es) (ho : RecOk es) (hg : RecGood r es) (q : ∀ p H', Same H H' → H' p = some (.dK (cntK (behind r es false).cnt)) → Q (.ref p) H') : spCo K [.ref ar, .ref a] H Q E := ⟨ar, a, r, xs, es, rfl, h1, ok, h2, hR, ho, hg, q⟩
theorem cntK_vals (c : Sw → Int) : (cntK c).map (·.2) = (allSw.map c).map V.int := by unfold cntK; rw [List.map_map, List.map_map]; rfl
def spCs (K : PySem.W.Frag) : Sp := fun vs H Q _ => ∃ (ar a : Addr) (r : Rl) (xs : List V) (es : List Ev), vs = [.ref ar, .ref a] ∧ SqT K H ar r.vs ∧ r.Ok ∧ SqL K H a xs ∧ Rows H evV xs es ∧ RecOk es ∧ RecGood r es ∧ ∀ H', Same H H' → Q (.int (csumS (behind r es false).cnt)) H'
theorem ok_count_steps (T : Txt K mg) : C8.Cal P w K mg base 11 "count_steps" (spCs K) [] := by
  refine calD (D_count_steps T) (T_count_steps T) sc_count_steps (fun _ _ _ _ _ _ us hl => match us, hl with | [_, _], _ => rfl) (fun vs H Q E h => ?_) (fun cdv A outer s H vs Q E hr h => ?_)
  · obtain ⟨_, _, _, _, _, rfl, _⟩ := h
    rfl
  · have hu := hu_of hr
    refine ⟨_, (pss_one (ps_ret (pe_sumVals rfl (by rfl) (T_sum T) (C8.pe_c (ok_counts_of T) hr (by decide) rfl (pa_cons (pv 0) (pa_cons (pv 1) pa_nil)))))), ?_⟩
    walk_at "cx"
    obtain ⟨ar, a, r, xs, es, rfl, h1, ok, h2, hR, ho, hg, q⟩ := h
    walk_at "rd"
    refine u_co h1 ok h2 hR ho hg fun p H1 s1 hp => ?_
    exact ⟨p, _, allSw.map (behind r es false).cnt, rfl, hp, cntK_vals _, q _ s1⟩
theorem u_cs {H : Hp} {Q : VK} {E : XK} {ar a : Addr} {r : Rl} {xs : List V} {es : List Ev} (h1 : SqT K H ar r.vs) (ok : r.Ok) (h2 : SqL K H a xs) (hR : Rows H evV xs es) (ho : RecOk es) (hg : RecGood r es) (q : ∀ H', Same H H' → Q (.int (csumS (behind r es false).cnt)) H') : spCs K [.ref ar, .ref a] H Q E := ⟨ar, a, r, xs, es, rfl, h1, ok, h2, hR, ho, hg, q⟩
def spCw (K : PySem.W.Frag) : Sp := fun vs H Q _ => ∃ (ar a : Addr) (r : Rl) (xs : List V) (es : List Ev) (x : Sw), vs = [.ref ar, .ref a, .str x.str] ∧ SqT K H ar r.vs ∧ r.Ok ∧ SqL K H a xs ∧ Rows H evV xs es ∧ RecOk es ∧ RecGood r es ∧ ∀ H', Same H H' → Q (.int ((behind r es false).cnt x)) H'
theorem ok_count_word (T : Txt K mg) : C8.Cal P w K mg base 11 "count_word" (spCw K) [] := by
  refine calD (D_count_word T) (T_count_word T) sc_count_word (fun _ _ _ _ _ _ us hl => match us, hl with | [_, _, _], _ => rfl) (fun vs H Q E h => ?_) (fun cdv A outer s H vs Q E hr h => ?_)
  · obtain ⟨_, _, _, _, _, _, rfl, _⟩ := h
    rfl
  · have hu := hu_of hr
    refine ⟨_, (pss_cons (ps_set (i := 3) sc_count_word.nd rfl (Or.inl rfl) (C8.pe_c (ok_counts_of T) hr (by decide) rfl (pa_cons (pv 0) (pa_cons (pv 1) pa_nil))))
      (pss_cons (ps_if (pt_not (pt_val (C8.pe_c (ok_is_one_of T) hr (by decide) rfl (pa_cons (pv 2) (pa_cons (pe_glob (v := .ref (He.ga K "STEP_WORDS")) rfl (T_STEP_WORDS T) rfl) pa_nil)))))
      (pss_one ps_never)
      pss_nil)
      (pss_one (ps_ret (pe_dget hu (pv 3) (pv 2) (fun _ _ => rfl)))))), ?_⟩
    walk_at "cx"
    obtain ⟨ar, a, r, xs, es, x, rfl, h1, ok, h2, hR, ho, hg, q⟩ := h
    walk_at "rd"
    refine u_co h1 ok h2 hR ho hg fun p H1 s1 hp => ?_
    have hW : SqT K H1 (He.ga K "STEP_WORDS") ((allSw.map Sw.str).map V.str) := X_STEP_WORDS T H1
    walk_at "rd"
    refine r_ifF (by rw [decide_eq_true (swv x)]; rfl) ?_
    walk_at "rd"
    refine ⟨p, _, rfl, (by have := DGet.k (k := .inr x.str) hp; rw [cnt_get] at this; exact this), ?_⟩
    exact q _ s1
theorem u_cw {H : Hp} {Q : VK} {E : XK} {ar a : Addr} {r : Rl} {xs : List V} {es : List Ev} {x : Sw} (h1 : SqT K H ar r.vs) (ok : r.Ok) (h2 : SqL K H a xs) (hR : Rows H evV xs es) (ho : RecOk es) (hg : RecGood r es) (q : ∀ H', Same H H' → Q (.int ((behind r es false).cnt x)) H') : spCw K [.ref ar, .ref a, .str x.str] H Q E := ⟨ar, a, r, xs, es, x, rfl, h1, ok, h2, hR, ho, hg, q⟩
/-! ### steps, one by one -/
def spSt (K : PySem.W.Frag) : Sp := fun vs H Q _ => ∃ (ar a : Addr) (r : Rl) (xs : List V) (es : List Ev), vs = [.ref ar, .ref a] ∧ SqT K H ar r.vs ∧ r.Ok ∧ SqL K H a xs ∧ Rows H evV xs es ∧ RecOk es ∧ RecGood r es ∧ csumS (behind r es false).cnt ≤ 1000 ∧ BhOk (MSt.new r true) es ∧ ∀ p ys H', Same H H' → H' p = some (.lst ys) → Rows H' logV ys (behind r es true).log → Q (.ref p) H'
theorem ok_steps (T : Txt K mg) : C8.Cal P w K mg base 11 "steps" (spSt K) [] := by
  refine calD (D_steps T) (T_steps T) sc_steps (fun _ _ _ _ _ _ us hl => match us, hl with | [_, _], _ => rfl) (fun vs H Q E h => ?_) (fun cdv A outer s H vs Q E hr h => ?_)
  · obtain ⟨_, _, _, _, _, rfl, _⟩ := h
    rfl
  · have hu := hu_of hr
    refine ⟨_, (pss_cons (ps_if (pt_cmpR op_gt (pe_sumVals rfl (by rfl) (T_sum T) (C8.pe_c (ok_counts_of T) hr (by decide) rfl (pa_cons (pv 0) (pa_cons (pv 1) pa_nil)))) (C8.pe_gc rfl (T_MOST_STEPS T)) (nomark _))
      (pss_one ps_never)
      pss_nil)
      (pss_one (ps_ret (pe_callTy cq_list (by rfl) (T_list T) (by decide +kernel) (pa_cons (pe_fld (C8.pe_c (ok_state_behind T) hr (by decide) rfl (pa_cons (pv 0) (pa_cons (pv 1) (pa_cons pe_bl pa_nil)))) rfl) pa_nil))))), ?_⟩
    walk_at "cx"
    obtain ⟨ar, a, r, xs, es, rfl, h1, ok, h2, hR, ho, hg, hs, hB, q⟩ := h
    walk_at "rd"
    refine u_co h1 ok h2 hR ho hg fun p H1 s1 hp => ?_
    refine ⟨p, _, allSw.map (behind r es false).cnt, rfl, hp, cntK_vals _, ?_⟩
    walk_at "rd"
    refine r_ifF (decide_eq_false (show ¬ csumS (behind r es false).cnt > 1000 by omega)) ?_
    walk_at "rd"
    refine u_sb (Same.tup s1 h1) ok (s1.seq h2) (hR.ex s1) hB fun p2 H2 s2 ⟨a2, S2⟩ => ?_
    walk_at "rd"
    rename_i p3 hp3
    exact q _ _ _ ((s1.trans s2).trans (Same.new hp3)) upd_same (S2.rG.ex (Same.new hp3))
theorem u_st {H : Hp} {Q : VK} {E : XK} {ar a : Addr} {r : Rl} {xs : List V} {es : List Ev} (h1 : SqT K H ar r.vs) (ok : r.Ok) (h2 : SqL K H a xs) (hR : Rows H evV xs es) (ho : RecOk es) (hg : RecGood r es) (hs : csumS (behind r es false).cnt ≤ 1000) (hB : BhOk (MSt.new r true) es) (q : ∀ p ys H', Same H H' → H' p = some (.lst ys) → Rows H' logV ys (behind r es true).log → Q (.ref p) H') : spSt K [.ref ar, .ref a] H Q E := ⟨ar, a, r, xs, es, rfl, h1, ok, h2, hR, ho, hg, hs, hB, q⟩
/-! ### the mark with an index -/
def spRi : Sp := fun vs H Q _ => ∃ (i : Nat) (m : Int), vs = [.int i, .int m] ∧ (i : Int) < m ∧ Q .non H
theorem ok_require_index (T : Txt K mg) : C8.Cal P w K mg base 2 "require_index" spRi [] := by
  refine calD (D_require_index T) (T_require_index T) sc_require_index (fun _ _ _ _ _ _ us hl => match us, hl with | [_, _], _ => rfl) (fun vs H Q E h => ?_) (fun cdv A outer s H vs Q E hr h => ?_)
  · obtain ⟨_, _, rfl, _⟩ := h
    rfl
  · have hu := hu_of hr
    refine ⟨_, (pss_one (ps_if (PW.pt (pw_or (pt_not (pt_val (C8.pe_c (ok_is_integer T) hr (by decide) rfl (pa_cons (pv 0) (pa_cons pe_int pa_nil))))) (pw_or1 (pt_cmpR op_ge (pv 0) (pv 1) (nomark _)))))
      (pss_one ps_never)
      pss_nil)), ?_⟩
    walk_at "cx"
    obtain ⟨i, m, rfl, hi, q⟩ := h
    walk_at "rd"
    refine r_ifF (decide_eq_false (show ¬ m ≤ (i : Int) by omega)) ?_
    walk_at "rd"
    exact q
theorem u_ri {H : Hp} {Q : VK} {E : XK} {i : Nat} {m : Int} (hi : (i : Int) < m) (q : Q .non H) : spRi [.int i, .int m] H Q E := ⟨i, m, rfl, hi, q⟩
def nthM (r : Rl) : Nat → List Run → Option (Run × Nat)
  | _, [] => none
  | i, x :: xs => if i < (expand r x).length then some (x, i) else nthM r (i - (expand r x).length) xs
theorem nthM_sing (r : Rl) : ∀ {xs : List Run} {i : Nat}, i < (sing r xs).length → ∃ w, nthM r i xs = some w ∧ (sing r xs)[i]? = some (markB r w.1 w.2, .one (markK w.1 w.2), 1)
  | [], i, h => by cases h
  | x :: xs, i, h => by
    have h2 : i < (expand r x ++ sing r xs).length := h
    by_cases hi : i < (expand r x).length
    · refine ⟨(x, i), by unfold nthM; rw [if_pos hi], ?_⟩
      show (expand r x ++ sing r xs)[i]? = _
      rw [List.getElem?_append_left hi]
      exact expand_get r x hi
    · rw [List.length_append] at h2
      obtain ⟨w, h3, h4⟩ := nthM_sing r (xs := xs) (i := i - (expand r x).length) (by omega)
      refine ⟨w, by unfold nthM; rw [if_neg hi]; exact h3, ?_⟩
      show (expand r x ++ sing r xs)[i]? = _
      rw [List.getElem?_append_right (by omega)]
      exact h4
theorem nthM_cons (r : Rl) (i : Nat) (x : Run) (xs : List Run) : nthM r i (x :: xs) = if i < (expand r x).length then some (x, i) else nthM r (i - (expand r x).length) xs := rfl
def spNm (K : PySem.W.Frag) : Sp := fun vs H Q _ => ∃ (ar a : Addr) (r : Rl) (xs : List V) (es : List Ev) (i : Nat), vs = [.ref ar, .ref a, .int i] ∧ SqT K H ar r.vs ∧ r.Ok ∧ SqL K H a xs ∧ Rows H evV xs es ∧ RecOk es ∧ RecGood r es ∧ (behind r es false).rules = r ∧
  (i : Int) < rtot (behind r es false).tidy ∧ ∀ w p H', (sing r (behind r es false).tidy)[i]? = some (markB r w.1 w.2, .one (markK w.1 w.2), 1) → Same H H' → H p = none → H' p = some (.tup (markV r w)) → Q (.ref p) H'
theorem ok_nth_mark (T : Txt K mg) : C8.Cal P w K mg base 12 "nth_mark" (spNm K) [] := by
  refine calD (D_nth_mark T) (T_nth_mark T) sc_nth_mark (fun _ _ _ _ _ _ us hl => match us, hl with | [_, _, _], _ => rfl) (fun vs H Q E h => ?_) (fun cdv A outer s H vs Q E hr h => ?_)
  · obtain ⟨_, _, _, _, _, _, rfl, _⟩ := h
    rfl
  · have hu := hu_of hr
    refine ⟨_, (pss_cons (ps_set (i := 3) sc_nth_mark.nd rfl (Or.inl rfl) (C8.pe_c (ok_runs_of T) hr (by decide) rfl (pa_cons (pv 0) (pa_cons (pv 1) pa_nil))))
      (pss_cons (ps_expr (C8.pe_c (ok_require_index T) hr (by decide) rfl (pa_cons (pv 2) (pa_cons (pe_callB (cr_sum rfl) (by rfl) (T_sum T) (by decide +kernel) (pa_cons (pe_lc (own := [("begin", 7), ("word", 8), ("times", 9)]) rfl sc_nth_mark.nd (pi_list (pv 3)) (blkOk_by (own := [("begin", 7), ("word", 8), ("times", 9)]) (N := ["rules", "record", "index", "runs", "left", "run", "many", "begin", "word", "times"]) (sc := defScope s_nth_mark) (by decide +kernel)) (fun _ _ _ _ _ => (pg_tupK (K := K) (n := 3) rfl rfl (pgs_cons (pg_name (i := 7) sc_nth_mark.nd rfl (Or.inl rfl)) (pgs_cons (pg_name (i := 8) sc_nth_mark.nd rfl (Or.inl rfl)) (pgs_cons (pg_name (i := 9) sc_nth_mark.nd rfl (Or.inl rfl)) pgs_nil))))) (fun _ _ _ _ _ => pts_nil) (fun _ _ _ _ _ => (pe_op op_mul (pe_callB cq_lenZ (by rfl) (T_len T) PySem.boot_len (pa_cons (pv 8) pa_nil)) (pv 9)))) pa_nil)) pa_nil))))
      (pss_cons (ps_set (i := 4) sc_nth_mark.nd rfl (Or.inl rfl) (pv 2))
      (pss_cons (ps_for PassesOwn.never rfl (pi_list (pv 3)) (pg_name (i := 5) sc_nth_mark.nd rfl (Or.inl rfl))
      (pss_cons (ps_set (i := 6) sc_nth_mark.nd rfl (Or.inl rfl) (pe_op op_mul (pe_callB cq_lenZ (by rfl) (T_len T) PySem.boot_len (pa_cons (pe_ix ix_tup (pv 5) pe_int (fun _ _ => rfl)) pa_nil)) (pe_ix ix_tup (pv 5) pe_int (fun _ _ => rfl))))
      (pss_cons (ps_if (pt_cmpR op_lt (pv 4) (pv 6) (nomark _))
      (pss_one (ps_ret (C8.pe_c (ok_mark_of T) hr (by decide) rfl (pa_cons (pv 0) (pa_cons (pv 5) (pa_cons (pv 4) pa_nil))))))
      pss_nil)
      (pss_one (ps_aug (i := 4) sc_nth_mark.nd rfl (Or.inl rfl) (pv 6) ip_sub)))))
      (pss_one (ps_ret pe_non)))))), ?_⟩
    walk_at "cx"
    obtain ⟨ar, a, r, xs, es, i, rfl, h1, ok, h2, hR, ho, hg, hr, hi, q⟩ := h
    have hb := tidy_bounds ok hg hr
    walk_at "rd"
    refine u_rof h1 ok h2 hR ho hg fun p ys H1 hL => ?_
    generalize (behind r es false).tidy = rs at *
    have hsl := sing_len r (xs := rs) fun x hx => (hb.1 x hx).1
    walk_at "rd"
    rename_i D hD
    refine lc_it walk_list (fun j H' => Same H1 H' ∧ H' D = some (.lst ((rs.take j).map fun y => V.int (y.2.1.ks.length * y.2.2)))) ⟨Same.new hD, upd_same⟩ (fun _ _ _ z => SqL.of (z.1 _ _ hL.hL)) (fun j y Ha Hb hj hs hy => ?_) (fun Ha hs => ?_)
    · obtain ⟨s1, hd⟩ := hs
      obtain ⟨rfl, hc⟩ := hy
      obtain ⟨ea, x, rfl, hx, hea⟩ := hL.hR.get hc
      have hea2 := s1 _ _ hea
      have hi2 : j < rs.length := (List.getElem?_eq_some_iff.mp hx).1
      have hrl := hb.2
      have hwl := wd_szl x.2.1
      have hw2 := wd_le x.2.1
      walk_at "rd"
      refine r_I (.inl ?_) ?_
      · rw [wd_slen]
        omega
      refine ⟨_, hd, ?_, Same.mut s1 hD, ?_⟩
      · rw [List.length_map, List.length_take]
        exact Nat.lt_of_le_of_lt (show min j rs.length ≤ 1000000 by omega) (by decide)
      · rw [upd_same, List.take_succ, hx, List.map_append, wd_slen]
        rfl
    · obtain ⟨s1, hd⟩ := hs
      rw [hL.len, List.take_length, sum_map_int] at hd
      walk_at "rd"
      refine r_sum (SqL.of hd) ?_
      have hsum : (rs.map fun y => (y.2.1.ks.length : Int) * y.2.2).sum = rtot rs := by
        clear hd hL hb hg hsl q hi
        induction rs with
        | nil => rfl
        | cons x rs ih => rw [List.map_cons, List.sum_cons, ih]; rfl
      rw [hsum]
      walk_at "rd"
      refine u_ri hi ?_
      obtain ⟨w, hw, hws⟩ := nthM_sing r (xs := rs) (i := i) (by omega)
      have hL2 := s1 _ _ hL.hL
      walk_at "rd"
      refine for_it walk_list (fun j σ Hc => ∃ (v5 v6 v7 v8 v9 : Option V) (left : Nat), σ = [some (.ref ar), some (.ref a), some (.int i), some (.ref p), some (.int left), v5, v6, v7, v8, v9] ∧ Same H1 Hc ∧ nthM r left (rs.drop j) = some w) ⟨_, _, _, _, _, i, rfl, s1, hw⟩ (fun j σ Hc _ z => by obtain ⟨_, _, _, _, _, _, _, s, _⟩ := z; exact SqL.of (s _ _ hL.hL)) ?_ ?_
      · rintro j y σ Hc Hd hj ⟨v5, v6, v7, v8, v9, left, rfl, s2, hm⟩ ⟨rfl, hy⟩
        obtain ⟨ea, x, rfl, hx, hea⟩ := hL.hR.get hy
        have hea2 := s2 _ _ hea
        have hxm := hb.1 x (List.mem_of_getElem? hx)
        have hwl := wd_szl x.2.1
        have hw2 := wd_le x.2.1
        have hel := expand_len r hxm.1
        walk_at "rd"
        refine r_I (.inl ?_) ?_
        · rw [wd_slen]
          omega
        rw [wd_slen, ← hel]
        walk_at "rd"
        rw [drop_cons hx, nthM_cons] at hm
        by_cases hlt : left < (expand r x).length
        · rw [if_pos hlt] at hm
          refine r_ifT (decide_eq_true (show (left : Int) < (((expand r x).length : Nat) : Int) by omega)) ?_
          walk_at "rd"
          cases hm
          have h5 : (x.2.1.ks.length : Int) * x.2.2 ≤ 2 * x.2.2 := Int.mul_le_mul_of_nonneg_right (by omega) (by omega)
          have h6 := hxm.2.1
          have e900 : (2 : Nat) ^ 900 = 2 ^ 800 * 2 ^ 100 := by decide
          refine u_mof (Same.tup (hL.s.trans s2) h1) ok (SqT.of hea2) (by omega) fun p2 H5 s6 p20 hp2 => ?_
          walk_at "rd"
          exact q _ _ _ hws ((hL.s.trans s2).trans s6) (Same.free' (hL.s.trans s2) p20) hp2
        · rw [if_neg hlt] at hm
          refine r_ifF (decide_eq_false (show ¬ (left : Int) < (((expand r x).length : Nat) : Int) by omega)) ?_
          walk_at "rd"
          rw [show (left : Int) - (((expand r x).length : Nat) : Int) = ((left - (expand r x).length : Nat) : Int) by omega]
          exact ⟨_, _, _, _, _, _, rfl, s2, hm⟩
      · rintro σ Hc ⟨v5, v6, v7, v8, v9, left, rfl, s2, hm⟩
        rw [hL.len, List.drop_length] at hm
        cases hm
theorem u_nm {H : Hp} {Q : VK} {E : XK} {ar a : Addr} {r : Rl} {xs : List V} {es : List Ev} {i : Nat} (h1 : SqT K H ar r.vs) (ok : r.Ok) (h2 : SqL K H a xs) (hR : Rows H evV xs es) (ho : RecOk es) (hg : RecGood r es) (hr : (behind r es false).rules = r) (hi : (i : Int) < rtot (behind r es false).tidy)
  (q : ∀ w p H', (sing r (behind r es false).tidy)[i]? = some (markB r w.1 w.2, .one (markK w.1 w.2), 1) → Same H H' → H p = none → H' p = some (.tup (markV r w)) → Q (.ref p) H') : spNm K [.ref ar, .ref a, .int i] H Q E := ⟨ar, a, r, xs, es, i, rfl, h1, ok, h2, hR, ho, hg, hr, hi, q⟩
def spPd (K : PySem.W.Frag) : Sp := fun vs H Q _ => ∃ (a : Addr) (r : Rl) (k : Kd), vs = [.ref a, kv k] ∧ SqT K H a r.vs ∧ r.Ok ∧ ∀ H', Same H H' → Q (.int (r.per k)) H'
theorem ok_period (T : Txt K mg) : C8.Cal P w K mg base 4 "period" (spPd K) [] := by
  refine calD (D_period T) (T_period T) sc_period (fun _ _ _ _ _ _ us hl => match us, hl with | [_, _], _ => rfl) (fun vs H Q E h => ?_) (fun cdv A outer s H vs Q E hr h => ?_)
  · obtain ⟨_, _, _, rfl, _⟩ := h
    rfl
  · have hu := hu_of hr
    refine ⟨_, (pss_cons (ps_expr (C8.pe_c (ok_require_rules T) hr (by decide) rfl (pa_cons (pv 0) pa_nil)))
      (pss_cons (ps_expr (C8.pe_c (ok_require_lever T) hr (by decide) rfl (pa_cons (pv 1) pa_nil)))
      (pss_one (ps_ret (C8.pe_c (ok_period_of T) hr (by decide) rfl (pa_cons (pv 0) (pa_cons (pv 1) pa_nil))))))), ?_⟩
    walk_at "cx"
    obtain ⟨a, r, k, rfl, h1, ok, q⟩ := h
    walk_at "rd"
    refine u_reqR h1 ok fun H1 s1 => ?_
    have h2 := Same.tup s1 h1
    walk_at "rd"
    refine u_reqL ?_
    walk_at "rd"
    exact q _ s1
theorem u_pd {H : Hp} {Q : VK} {E : XK} {a : Addr} {r : Rl} {k : Kd} (h : SqT K H a r.vs) (ok : r.Ok) (q : ∀ H', Same H H' → Q (.int (r.per k)) H') : spPd K [.ref a, kv k] H Q E := ⟨a, r, k, rfl, h, ok, q⟩
end
end
section
/-! ### what the numbers of steps are, in plain Lean -/
/-- marks of a kind in kinds -/
def kdW (k : Kd) (ks : List (Wd × Int)) : Int := (ks.map fun y => y.2 * ((y.1.ks.filter fun j => decide (j = k)).length : Int)).sum
theorem kdW_cons (k : Kd) (x : Wd × Int) (ks : List (Wd × Int)) : kdW k (x :: ks) = x.2 * ((x.1.ks.filter fun j => decide (j = k)).length : Int) + kdW k ks := by
  unfold kdW
  rw [List.map_cons, List.sum_cons]
def cnK (k : Kd) (l : List Kd) : Nat := (l.filter fun j => decide (j = k)).length
theorem cnK_app (k : Kd) (a b : List Kd) : cnK k (a ++ b) = cnK k a + cnK k b := by unfold cnK; rw [List.filter_append, List.length_append]
theorem cnK_wks (k : Kd) (w : Wd) : ∀ n : Nat, cnK k (wks w n) = n * cnK k w.ks
  | 0 => by rw [Nat.zero_mul]; cases w <;> rfl
  | n + 1 => by
    have ih := cnK_wks k w n
    rw [Nat.add_mul, Nat.one_mul, ← ih]
    cases w with
    | one j =>
      show cnK k (List.replicate (n + 1) j) = cnK k (List.replicate n j) + cnK k [j]
      rw [← cnK_app]
      congr 1
      exact List.replicate_succ'
    | two j =>
      show cnK k (zigs j (2 * (n + 1))) = cnK k (zigs j (2 * n)) + cnK k [j, j.ot]
      rw [zigs_two, Nat.add_comm, ← cnK_app]
      rfl
theorem cnK_kds (k : Kd) : ∀ {ks : List (Wd × Int)}, (∀ x ∈ ks, 1 ≤ x.2) → (cnK k (kdsOf ks) : Int) = kdW k ks
  | [], _ => rfl
  | x :: ks, h => by
    have h1 := h x (List.mem_cons_self ..)
    have h2 := cnK_kds k (ks := ks) fun y hy => h y (List.mem_cons_of_mem _ hy)
    rw [kdW_cons, ← h2]
    show ((cnK k (wks x.1 x.2.toNat ++ kdsOf ks) : Nat) : Int) = _
    rw [cnK_app, cnK_wks, Int.natCast_add, Int.natCast_mul, show ((x.2.toNat : Nat) : Int) = x.2 by omega]
    rfl
theorem cnK_two (l : List Kd) : cnK .s l + cnK .l l = l.length := by
  induction l with
  | nil => rfl
  | cons a l ih =>
    cases a
    · show (l.filter _).length + 1 + _ = l.length + 1
      have : cnK .l (.s :: l) = cnK .l l := rfl
      have e : cnK .s (.s :: l) = cnK .s l + 1 := rfl
      unfold cnK at *
      omega
    · have : cnK .s (.l :: l) = cnK .s l := rfl
      have e : cnK .l (.l :: l) = cnK .l l + 1 := rfl
      rw [this, e, List.length_cons]
      omega
theorem kdN_lay (k : Kd) (r : Rl) : ∀ (ks : List Kd) (a : Int), kdN k (lay1 r a ks) = cnK k ks
  | [], _ => rfl
  | j :: ks, a => by
    show kdN k ([(a, .one j, 1)] ++ lay1 r (a + r.per j) ks) = _
    rw [kdN_app, kdN_lay k r ks, kdN_one]
    show _ = ((cnK k ([j] ++ ks) : Nat) : Int)
    rw [cnK_app, Int.natCast_add]
    congr 1
    unfold cnK
    by_cases z : j = k
    · rw [if_pos z, List.filter_cons_of_pos (by simp [z])]; rfl
    · rw [if_neg z, List.filter_cons_of_neg (by simp [z])]; rfl
theorem kdN_sing (k : Kd) (r : Rl) : ∀ {xs : List Run}, kdN k (sing r xs) = (cnK k (kdsOf (xs.map kiOf)) : Int)
  | [] => rfl
  | x :: xs => by
    show kdN k (lay1 r x.1 (wks x.2.1 x.2.2.toNat) ++ sing r xs) = ((cnK k (wks x.2.1 x.2.2.toNat ++ kdsOf (xs.map kiOf)) : Nat) : Int)
    rw [kdN_app, kdN_lay, kdN_sing k r, cnK_app, Int.natCast_add]
theorem grpN_lay (r : Rl) : ∀ (ks : List Kd) (a : Int) (ys : List Run), grpN r (some a) (lay1 r a ks ++ ys) = grpN r (some (a + persum r ks)) ys
  | [], a, ys => by show grpN r (some a) ys = grpN r (some (a + 0)) ys; rw [Int.add_zero]
  | k :: ks, a, ys => by
    show (if decide (a < a) = true then 1 else 0) + grpN r (some (runEnd r (a, .one k, 1))) (lay1 r (a + r.per k) ks ++ ys) = _
    rw [decide_eq_false (Int.lt_irrefl a), runEnd1, grpN_lay r ks, persum_cons]
    show (0 : Int) + _ = _
    rw [Int.zero_add]
    congr 2
    omega
theorem grpN_sing (r : Rl) : ∀ {xs : List Run} (last : Option Int), (∀ x ∈ xs, 1 ≤ x.2.2) → grpN r last xs = grpN r last (sing r xs)
  | [], _, _ => rfl
  | (b, w, t) :: xs, last, h => by
    have h1 : 1 ≤ t := h (b, w, t) (List.mem_cons_self ..)
    obtain ⟨n, rfl⟩ := Int.eq_ofNat_of_zero_le (show 0 ≤ t by omega)
    have ih := grpN_sing r (xs := xs) (some (runEnd r (b, w, (n : Int)))) fun x hx => h x (List.mem_cons_of_mem _ hx)
    have hne : wks w n ≠ [] := wks_ne (by omega)
    have hps := persum_wks r w n
    obtain ⟨k, ks, hk⟩ : ∃ k ks, wks w n = k :: ks := by
      cases hw : wks w n with
      | nil => exact absurd hw hne
      | cons k ks => exact ⟨k, ks, rfl⟩
    show _ + grpN r (some (runEnd r (b, w, (n : Int)))) xs = grpN r last (lay1 r b (wks w n) ++ sing r xs)
    rw [ih, hk]
    show _ = _ + grpN r (some (runEnd r (b, .one k, 1))) (lay1 r (b + r.per k) ks ++ sing r xs)
    rw [runEnd1, grpN_lay]
    have e : b + r.per k + persum r ks = runEnd r (b, w, (n : Int)) := by
      show _ = b + (n : Int) * w.per r
      rw [← hps, hk, persum_cons]
      omega
    rw [e]
/-! ### records -/
theorem asc_of : ∀ {es : List Ev} {t : Int} {d : List Kd} {z : Option Int × List Kd}, recSt (some t) d es = some z → Asc t es
  | [], _, _, _, _ => trivial
  | (u, k, b) :: es, t, d, z, h => by
    obtain ⟨h1, _, h3⟩ := recSt_one h
    exact ⟨h1 t rfl, asc_of h3⟩
theorem asc_none {e : Ev} {es : List Ev} {d : List Kd} {z : Option Int × List Kd} (h : recSt none d (e :: es) = some z) : Asc e.1 (e :: es) := by
  obtain ⟨u, k, b⟩ := e
  obtain ⟨_, _, h3⟩ := recSt_one h
  exact ⟨Int.le_refl _, asc_of h3⟩
theorem val_of : ∀ {es : List Ev} {l : Option Int} {d d' : List Kd} {z : Option Int × List Kd}, recSt l d es = some z → (∀ k, k ∈ d ↔ k ∈ d') → Val d' es
  | [], _, _, _, _, _, _ => trivial
  | (u, k, b) :: es, l, d, d', z, h, hd => by
    obtain ⟨_, h2, h3⟩ := recSt_one h
    refine ⟨fun e => (hd k).mp ?_, val_of h3 fun j => ?_⟩
    · have e2 : b = false := e
      rw [e2] at h2
      simpa using h2
    · rw [stepDn_mem]
      show (if b then j ∈ d ∨ j = k else j ∈ d ∧ j ≠ k) ↔ j ∈ (if b then pressDown k d' else d'.filter fun o => decide (o ≠ k))
      cases b with
      | true =>
        show (j ∈ d ∨ j = k) ↔ j ∈ pressDown k d'
        rw [hd j]
        unfold pressDown
        split <;> simp [or_comm]
      | false =>
        show (j ∈ d ∧ j ≠ k) ↔ j ∈ d'.filter fun o => decide (o ≠ k)
        rw [hd j, List.mem_filter, decide_eq_true_eq]
theorem evN_bal (k : Kd) : ∀ {es : List Ev} {l l' : Option Int} {d d' : List Kd}, recSt l d es = some (l', d') → evN k true es + (if k ∈ d then 1 else 0) = evN k false es + (if k ∈ d' then 1 else 0)
  | [], _, _, _, _, h => by cases h; rfl
  | (u, j, b) :: es, l, l', d, d', h => by
    obtain ⟨_, h2, h3⟩ := recSt_one h
    have ih := evN_bal k h3
    have hm := stepDn_mem (d := d) (e := (u, j, b)) k
    show (if j = k ∧ b = true then (1 : Int) else 0) + evN k true es + _ = (if j = k ∧ b = false then (1 : Int) else 0) + evN k false es + _
    by_cases z : j = k
    · subst z
      cases b with
      | true =>
        have hn : j ∉ d := by simpa using h2
        have hy : j ∈ stepDn d (u, j, true) := hm.mpr (.inr rfl)
        rw [if_pos hy] at ih
        rw [if_pos (show j = j ∧ true = true from ⟨rfl, rfl⟩), if_neg (show ¬ (j = j ∧ true = false) by simp), if_neg hn]
        omega
      | false =>
        have hn : j ∈ d := by simpa using h2
        have hy : j ∉ stepDn d (u, j, false) := fun y => (hm.mp y).2 rfl
        rw [if_neg hy] at ih
        rw [if_neg (show ¬ (j = j ∧ false = true) by simp), if_pos (show j = j ∧ false = false from ⟨rfl, rfl⟩), if_pos hn]
        omega
    · have hs : (k ∈ stepDn d (u, j, b)) ↔ k ∈ d := by
        rw [hm]
        cases b with
        | true =>
          show (k ∈ d ∨ k = j) ↔ _
          exact ⟨fun y => y.elim id fun e => absurd e.symm z, .inl⟩
        | false =>
          show (k ∈ d ∧ k ≠ j) ↔ _
          exact ⟨fun y => y.1, fun y => ⟨y, fun e => z e.symm⟩⟩
      rw [if_neg (show ¬ (j = k ∧ b = true) from fun y => z y.1), if_neg (show ¬ (j = k ∧ b = false) from fun y => z y.1)]
      by_cases q : k ∈ d
      · rw [if_pos (hs.mpr q)] at ih
        rw [if_pos q]
        omega
      · rw [if_neg fun y => q (hs.mp y)] at ih
        rw [if_neg q]
        omega
theorem evN_len : ∀ es : List Ev, (es.length : Int) = evN .s true es + evN .s false es + evN .l true es + evN .l false es
  | [] => rfl
  | (u, j, b) :: es => by
    have ih := evN_len es
    rw [List.length_cons]
    show ((es.length + 1 : Nat) : Int) = (if j = .s ∧ b = true then (1 : Int) else 0) + evN .s true es + ((if j = .s ∧ b = false then (1 : Int) else 0) + evN .s false es) + ((if j = .l ∧ b = true then (1 : Int) else 0) + evN .l true es) + ((if j = .l ∧ b = false then (1 : Int) else 0) + evN .l false es)
    cases j <;> cases b <;> simp <;> omega
theorem bh_all : ∀ {es : List Ev} {u : MSt}, BhOk u es → AdvAll u es
  | [], _, _ => trivial
  | _ :: _, _, h => ⟨h.1, bh_all h.2.2.2.2.2.2⟩
/-- a record that the program takes -/
structure RecF (r : Rl) (es : List Ev) : Prop where
  ok : r.Ok
  ro : RecOk es
  tk : ∀ e ∈ es, Tk e.1
theorem bh_two : ∀ (es : List Ev) (s : MSt) (c : Nat) (last : Option Int) (d : List Kd), Good c s → (∀ e ∈ es, Tk e.1) → recGo last d es = true → (∀ k, k ∈ s.down ↔ k ∈ d) → c + 2 * es.length ≤ 4000 → FinR 2 (s.evs es) (s.evs es).fin
  | [], s, c, last, d, hg, _, hr, hd, hc => by
    have hd0 : s.down = [] := by
      have h2 : d = [] := List.isEmpty_iff.mp hr
      refine List.eq_nil_iff_forall_not_mem.mpr fun k hk => ?_
      have := (hd k).mp hk
      rw [h2] at this
      cases this
    exact (good_fin hg (by simpa using hc) hd0).1
  | e :: es, s, c, last, d, hg, ht, hr, hd, hc => by
    have hc2 : c + 2 * (es.length + 1) ≤ 4000 := hc
    have hte := ht e (List.mem_cons_self ..)
    obtain ⟨a, g, k⟩ := adv_good hg hte (by omega)
    rw [recGo_cons, Bool.and_eq_true] at hr
    obtain ⟨h1, h2⟩ := hr
    unfold okEv at h1
    rw [Bool.and_eq_true] at h1
    have hp : e.2.2 = true → e.2.1 ∉ s.down := fun h z => by
      have h3 := h1.2
      rw [h] at h3
      have := (hd _).mp z
      simp [this] at h3
    have gh := hap_good g hte (k := e.2.1) (dn := e.2.2) fun h => by rw [k.d]; exact hp h
    have hf := hap_f (s.adv e.1) e.1 e.2.1 e.2.2
    refine bh_two es (s.ev e) (c + 1 + 1) (some e.1) _ gh (fun x hx => ht x (List.mem_cons_of_mem _ hx)) h2 (fun x => ?_) (by omega)
    show x ∈ ((s.adv e.1).happen e.1 e.2.1 e.2.2).down ↔ _
    rw [hf.d, k.d, stepDn_mem]
    cases e.2.2 with
    | true =>
      show x ∈ pressDown e.2.1 s.down ↔ (x ∈ d ∨ x = e.2.1)
      rw [← hd x]
      unfold pressDown
      split <;> simp [or_comm]
    | false =>
      show x ∈ s.down.filter (fun o => decide (o ≠ e.2.1)) ↔ (x ∈ d ∧ x ≠ e.2.1)
      rw [← hd x, List.mem_filter, decide_eq_true_eq]
section
variable {r : Rl} {es : List Ev}
theorem RecF.good (F : RecF r es) : RecGood r es ∧ (behind r es false).rules = r := ⟨(rec_good F.ok F.ro F.tk).1, (rec_good F.ok F.ro F.tk).2.2⟩
theorem RecF.hist (F : RecF r es) : Hist 2 (MSt.new r false) es (nf (behind r es false)) := by
  have h := hist_un (n := 2) (u := MSt.new r false) F.ok rfl (bh_all F.good.1.b) (bh_two es (MSt.new r false) 0 none [] (new_good F.ok) F.tk F.ro.1 (fun k => Iff.rfl) (by have := F.ro.2; omega))
  exact h
theorem RecF.asc (F : RecF r es) : ∃ t, Asc t es := by
  obtain ⟨l, h⟩ := recGo_st.mp F.ro.1
  cases es with
  | nil => exact ⟨0, trivial⟩
  | cons e es => exact ⟨e.1, asc_none h⟩
/-- the numbers of the steps of a record -/
theorem RecF.ci (F : RecF r es) : CI (fun k => evN k true es) (fun k => evN k false es) (nf (behind r es false)) ∧ (behind r es false).kind = none ∧ ∃ u, MkOk u (nf (behind r es false)) := by
  obtain ⟨t, ha⟩ := F.asc
  obtain ⟨c, _, k, m⟩ := hist_ci F.hist (t := t) F.ok (keep_new F.ok t).mo ha (ci_new r false)
  refine ⟨?_, k, m⟩
  have e1 : ∀ k, (0 : Int) + evN k true es = evN k true es := fun k => Int.zero_add _
  have e2 : ∀ k, (0 : Int) + evN k false es = evN k false es := fun k => Int.zero_add _
  simp only [e1, e2] at c
  exact c
theorem RecF.sg (F : RecF r es) : sing r (behind r es false).tidy = sing r (behind r es false).runs ∧ Spaced r none (sing r (behind r es false).runs) := by
  obtain ⟨_, _, u, m⟩ := F.ci
  have e := F.good.2
  have sp : Spaced (behind r es false).rules none (sing (behind r es false).rules (behind r es false).runs) := m.sp
  rw [e] at sp
  refine ⟨?_, sp⟩
  unfold MSt.tidy
  rw [e]
  exact sing_tidy2 F.good.1.r.t1 sp
theorem RecF.begin (F : RecF r es) (k : Kd) : kdW k (kindsOf r es) = (behind r es false).cnt (.begin k) ∧ kdN k (sing r (behind r es false).runs) = (behind r es false).cnt (.begin k) := by
  obtain ⟨c, _⟩ := F.ci
  have hk := tidy_kis F.good.1.r
  obtain ⟨_, h2⟩ := tidyK_tot hk.1
  have e : kdsOf (kindsOf r es) = kdsOf ((behind r es false).tidy.map kiOf) := by
    unfold kindsOf tidyKinds
    rw [putAll_ones (show PI [] from trivial) hk.1]
    exact (parts_marks _).1
  have hb : (behind r es false).cnt (.begin k) = kdN k (Sq.sing (behind r es false).rules (behind r es false).runs) := c.b k
  rw [F.good.2] at hb
  refine ⟨?_, hb.symm⟩
  rw [hb, ← F.sg.1, kdN_sing, ← e]
  exact (cnK_kds k h2).symm
theorem RecF.total (F : RecF r es) : rtot (behind r es false).tidy = (behind r es false).cnt (.begin .s) + (behind r es false).cnt (.begin .l) := by
  have hk := tidy_kis F.good.1.r
  have e : ∀ rs : List Run, tot (rs.map kiOf) = rtot rs := fun rs => by
    induction rs with
    | nil => rfl
    | cons x rs ih => rw [List.map_cons]; show _ + tot (rs.map kiOf) = _; rw [ih]; rfl
  rw [← e, ← kds_len hk.1, ← cnK_two, Int.natCast_add, ← kdN_sing .s r, ← kdN_sing .l r, F.sg.1, (F.begin .s).2, (F.begin .l).2]
theorem RecF.groups (F : RecF r es) : grpN r none (behind r es false).tidy ≤ (behind r es false).cnt .idle ∧ (behind r es false).cnt .idle ≤ (es.length : Int) / 2 := by
  obtain ⟨c, k, _⟩ := F.ci
  have ha : act (nf (behind r es false)) = 0 := by
    show (match (behind r es false).kind with | none => (0 : Int) | some _ => 1) = 0
    rw [k]
  have hg := c.g
  have hi := c.i
  rw [ha] at hg hi
  have hg2 : grpN (behind r es false).rules none (Sq.sing (behind r es false).rules (behind r es false).runs) ≤ (behind r es false).cnt .idle + 0 := hg
  have hi2 : (behind r es false).cnt .idle + 0 ≤ evN .s true es + evN .l true es := hi
  rw [F.good.2, ← F.sg.1, ← grpN_sing r none fun x hx => ((tidy_kis F.good.1.r).1 (kiOf x) (List.mem_map_of_mem hx))] at hg2
  obtain ⟨l, h⟩ := recGo_st.mp F.ro.1
  have b1 := evN_bal .s h
  have b2 := evN_bal .l h
  have b3 := evN_len es
  simp only [List.not_mem_nil, if_false] at b1 b2
  omega
theorem RecF.press (F : RecF r es) (k : Kd) : (behind r es false).cnt (.press k) = evN k true es ∧ (behind r es false).cnt (.release k) = evN k false es := ⟨F.ci.1.p k, F.ci.1.r k⟩
theorem RecF.rem (F : RecF r es) (j : Kd) : (behind r es false).cnt (.remember j) ≤ r.agI * (behind r es false).cnt (.begin j) + r.remI * (behind r es false).cnt (.begin j.ot) := by
  have h := F.ci.1.m j
  have h2 := resv_nn (nf (behind r es false)) j
  have h3 : (behind r es false).cnt (.remember j) + resv (nf (behind r es false)) j ≤ bndR (behind r es false).rules (Sq.sing (behind r es false).rules (behind r es false).runs) j := h
  rw [F.good.2] at h3
  unfold bndR at h3
  rw [(F.begin j).2, (F.begin j.ot).2] at h3
  omega
theorem RecF.hear (F : RecF r es) : (behind r es false).cnt .hear = r.hearI .s * (behind r es false).cnt (.begin .s) + r.hearI .l * (behind r es false).cnt (.begin .l) := by
  have h := F.ci.1.h
  have hp : pend (nf (behind r es false)) = 0 := by
    show (match (behind r es false).kind with | none => (0 : Int) | some k => _) = 0
    rw [F.ci.2.1]
  have h3 : (behind r es false).cnt .hear + pend (nf (behind r es false)) = hearR (behind r es false).rules (Sq.sing (behind r es false).rules (behind r es false).runs) := h
  rw [hp, F.good.2] at h3
  unfold hearR at h3
  rw [(F.begin .s).2, (F.begin .l).2] at h3
  omega
/-! ### with a log -/
structure RecL (r : Rl) (es : List Ev) : Prop where
  b : BhOk (MSt.new r true) es
  bg : begins (behind r es true).log = sing r (behind r es false).runs
  ln : (behind r es true).log.length ≤ 1000
  la : ((behind r es true).log = [] ∧ (behind r es false).tidy = []) ∨ ∃ tl w, (behind r es false).tidy = tl ++ [w] ∧ (behind r es true).log.getLast? = some (runEnd r w, .idle)
theorem logged_bh {r0 : Rl} : ∀ {es : List Ev} {s a u : MSt} {t0 : Int} {c : Nat}, Hist 2 s es a → s.rules = r0 → r0.Ok → MkOk t0 s → Asc t0 es → Val s.down es → LI s → LA s → er s = nf u → Good c u → (∀ e ∈ es, Tk e.1) → c + 2 * es.length ≤ 4000 → AdvAll u es → (∀ i, i ≤ es.length → ∀ e, es[i]? = some e → e.2.2 = true → e.2.1 ∉ (u.evs (es.take i)).down) →
    a.log.length ≤ 1000 → a.runs.length ≤ 1000 → BhOk s es ∧ (s.evs es).fin = a
  | [], s, a, u, t0, c, g, hr, ok, m, _, _, li, la, he, hg, _, _, _, _, hl, hrn => by
    cases g with
    | nil h =>
      have hd : s.down.length ≤ 2 := by
        have e : (er s).down = (nf u).down := by rw [he]
        have e : s.down = u.down := e
        rw [e]
        exact hg.dn.len
      obtain ⟨f1, f2⟩ := logged_fin h (by rw [hr]; exact ok) m li la hd hl hrn
      have e : s.fin = a := f2 4 (by decide)
      exact ⟨⟨2, by rw [e]; exact f1⟩, e⟩
  | (t, k, d) :: es, s, a, u, t0, c, g, hr, ok, m, asc, v, li, la, he, hg, htk, hc, av, hnp, hl, hrn => by
    cases g with
    | @cons _ x _ _ _ _ _ h gm =>
      have hc2 : c + 2 * (es.length + 1) ≤ 4000 := hc
      have oks : s.rules.Ok := by rw [hr]; exact ok
      have hte := htk _ (List.mem_cons_self ..)
      obtain ⟨m1, e1, _⟩ := MkOk.slow h oks m asc.1
      obtain ⟨l1, la1, g1⟩ := slow_li h oks m asc.1 li la
      have f := hap_f x t k d
      obtain ⟨l2, la2, ⟨ys, e2⟩, r2⟩ := l1.happen (t := t) (k := k) (d := d) m1 (fun z => by rw [g1.d]; exact v.1 z)
      have okx : (x.happen t k d).rules = r0 := by rw [f.rl, e1, hr]
      have va2 : Val (x.happen t k d).down es := by rw [f.d, g1.d]; exact v.2
      obtain ⟨_, _, ⟨zs, e3⟩, r3⟩ := hist_li gm (t := t) (by rw [okx]; exact ok) m1.happen asc.2 va2 l2 la2
      have lx : x.log.length ≤ 1000 := by
        have : a.log.length = x.log.length + ys.length + zs.length := by rw [e3, e2, List.length_append, List.length_append]
        omega
      have rx : x.runs.length ≤ 1000 := Nat.le_trans r2 (Nat.le_trans r3 hrn)
      have ed0 : (er s).down = (nf u).down := by rw [he]
      have eb0 : (er s).beg = (nf u).beg := by rw [he]
      have ed : s.down = u.down := ed0
      have eb : s.beg = u.beg := eb0
      have hd : s.down.length ≤ 2 := by rw [ed]; exact hg.dn.len
      have hbd : t - s.beg < 2 ^ 400 := by
        have b1 := hg.b1
        rw [← eb] at b1
        have t2 : t ≤ 2 ^ 303 := hte.2
        have e304 : (2 : Int) ^ 303 + 2 ^ 304 < 2 ^ 400 := by decide
        omega
      obtain ⟨a1, a2⟩ := logged_adv2 h oks m asc.1 li la hd lx rx hbd
      obtain ⟨b1, b2, b3⟩ := adv_good hg hte (by omega)
      have hx : er x = nf (u.adv t) := by
        have h1 : Slow t (er s) (er x) := by
          obtain ⟨x', hx1, hx2⟩ := lift_slow (adv_slow hg.ok hg.lg b1) s he
          rw [h.det hx1, hx2, he]
          exact adv_slow hg.ok hg.lg b1
        rw [he] at h1
        exact h1.det (adv_slow hg.ok hg.lg b1)
      have hpn : d = true → k ∉ u.down := fun z => hnp 0 (Nat.zero_le _) _ rfl z
      have gh := hap_good b2 hte (k := k) (dn := d) fun z => by rw [b3.d]; exact hpn z
      have he2 : er (x.happen t k d) = nf (u.ev (t, k, d)) := by
        rw [er_happen, hx]
        exact (nf_happen ..).symm
      obtain ⟨i1, i2⟩ := logged_bh gm okx ok m1.happen asc.2 va2 l2 la2 he2 gh (fun e he => htk e (List.mem_cons_of_mem _ he)) (by omega) av.2 (fun i hi e he z => hnp (i + 1) (by simpa using hi) e (by simpa using he) z) hl hrn
      have ex : s.ev (t, k, d) = x.happen t k d := by
        show (s.adv t).happen t k d = _
        rw [a2]
      have e4 : sizeLine = 16777216 := rfl
      refine ⟨⟨a1, by rw [ed]; exact hg.dn, fun z => by rw [ed]; exact hpn z, ?_, ?_, ?_, by rw [ex]; exact i1⟩, ?_⟩
      · show (s.adv t).runs.length < _
        rw [a2]
        omega
      · show (s.adv t).log.length + 3 < _
        rw [a2]
        omega
      · show (s.adv t).down = s.down
        rw [a2]
        exact g1.d
      · show ((s.ev (t, k, d)).evs es).fin = a
        rw [ex]
        exact i2
theorem bh_press : ∀ {es : List Ev} {u : MSt}, BhOk u es → ∀ i, i ≤ es.length → ∀ e, es[i]? = some e → e.2.2 = true → e.2.1 ∉ (u.evs (es.take i)).down
  | [], _, _, i, _, e, h, _ => by simp at h
  | e :: es, u, hb, 0, _, x, h, hx => by
    have e1 : e = x := by simpa using h
    subst e1
    exact hb.2.2.1 hx
  | e :: es, u, hb, i + 1, hi, x, h, hx => bh_press hb.2.2.2.2.2.2 i (by simpa using hi) x (by simpa using h) hx
theorem RecF.log (F : RecF r es) (h : csumS (behind r es false).cnt ≤ 1000) : RecL r es := by
  obtain ⟨t, ha⟩ := F.asc
  obtain ⟨l, hst⟩ := recGo_st.mp F.ro.1
  obtain ⟨a, hH, ea⟩ := lift_hist F.hist (MSt.new r true) rfl
  have mn : MkOk t (MSt.new r true) := ⟨fun x hx => (by cases hx), trivial, fun k hk => (by cases hk), fun _ => ⟨rfl, fun x hx => (by cases hx)⟩, fun x hx => (by cases hx)⟩
  have hv : Val (MSt.new r true).down es := val_of hst fun k => Iff.rfl
  obtain ⟨li, la, _, _⟩ := hist_li hH (t := t) F.ok mn ha hv (li_new r).1 (li_new r).2
  have ec0 : (er a).cnt = (nf (behind r es false)).cnt := by rw [ea]
  have ec : a.cnt = (behind r es false).cnt := ec0
  have er0 : (er a).runs = (nf (behind r es false)).runs := by rw [ea]
  have er1 : a.runs = sing (behind r es false).rules (behind r es false).runs := er0
  have el0 : (er a).rules = (nf (behind r es false)).rules := by rw [ea]
  have el1 : a.rules = (behind r es false).rules := el0
  have ek0 : (er a).kind = (nf (behind r es false)).kind := by rw [ea]
  have ek1 : a.kind = (behind r es false).kind := ek0
  rw [F.good.2] at er1 el1
  rw [F.ci.2.1] at ek1
  have hl : a.log.length ≤ 1000 := by
    have := li.ln
    rw [ec] at this
    omega
  have hrn : a.runs.length ≤ 1000 := by
    have h1 : (begins a.log).length ≤ a.log.length := List.length_filterMap_le ..
    rw [li.bg] at h1
    omega
  obtain ⟨b1, b2⟩ := logged_bh (u := MSt.new r false) (c := 0) hH rfl F.ok mn ha hv (li_new r).1 (li_new r).2 rfl (new_good F.ok) F.tk (by have := F.ro.2; omega) (bh_all F.good.1.b) (bh_press F.good.1.b) hl hrn
  have eb : behind r es true = a := b2
  refine ⟨b1, by rw [eb, li.bg, er1], by rw [eb]; exact hl, ?_⟩
  rw [eb]
  rcases la ek1 with ⟨h1, h2⟩ | ⟨w, h1, h2⟩
  · refine .inl ⟨h1, ?_⟩
    rw [er1] at h2
    have h3 := F.sg.1
    rw [h2] at h3
    have ht : ∀ x ∈ (behind r es false).tidy, 1 ≤ x.2.2 := fun x hx => (tidy_kis F.good.1.r).1 (kiOf x) (List.mem_map_of_mem hx)
    cases hc : (behind r es false).tidy with
    | nil => rfl
    | cons x xs =>
      rw [hc] at h3 ht
      have h4 : lay1 r x.1 (wks x.2.1 x.2.2.toNat) ++ sing r xs = [] := h3
      have h5 := List.append_eq_nil_iff.mp h4
      have h6 : wks x.2.1 x.2.2.toNat ≠ [] := wks_ne (by have := ht x (List.mem_cons_self ..); omega)
      cases hw : wks x.2.1 x.2.2.toNat with
      | nil => exact absurd hw h6
      | cons k ks => rw [hw] at h5; exact absurd h5.1 (by simp [lay1])
  · refine .inr ?_
    have ht : ∀ x ∈ (behind r es false).tidy, 1 ≤ x.2.2 := fun x hx => (tidy_kis F.good.1.r).1 (kiOf x) (List.mem_map_of_mem hx)
    have hd := getLast_cut h1
    obtain ⟨b, k, rfl⟩ : ∃ b k, w = (b, .one k, 1) := by
      refine sing_one r (behind r es false).runs w ?_
      rw [← er1, ← hd]
      simp
    rw [el1, runEnd1] at h2
    rw [er1] at hd
    have h3 := F.sg.1
    cases hc : (behind r es false).tidy.getLast? with
    | none =>
      have h4 := List.getLast?_eq_none_iff.mp hc
      rw [h4] at h3
      rw [← hd] at h3
      exact absurd h3 (by simp [sing])
    | some w' =>
      have h4 := getLast_cut hc
      refine ⟨_, w', h4.symm, ?_⟩
      rw [← h4] at ht h3
      rw [← hd] at h3
      rw [h2, last_end r ht h3]
end
end
section
section
variable {P : Program} {w : World} {K : PySem.W.Frag} {mg : Str → Option Value} {base : Heap}
theorem kdW_map (k : Kd) (ks : List (Wd × Int)) : (ks.map fun y => y.2 * ((y.1.ks.filter fun j => decide (j = k)).length : Int)).sum = kdW k ks := rfl
def spLmk (K : PySem.W.Frag) : Sp := fun vs H Q _ => ∃ (a : Addr) (xs : List V) (ks : List (Wd × Int)) (k : Kd), vs = [.ref a, kv k] ∧ SqL K H a xs ∧ Rows H kiV xs ks ∧ ks.length < sizeLine ∧ ∀ H', Same H H' → Q (.int (kdW k ks)) H'
theorem ok_law_many (T : Txt K mg) : C8.Cal P w K mg base 1 "_law_many" (spLmk K) [] := by
  refine calD (D_law_many T) (T_law_many T) sc_law_many (fun _ _ _ _ _ _ us hl => match us, hl with | [_, _], _ => rfl) (fun vs H Q E h => ?_) (fun cdv A outer s H vs Q E hr h => ?_)
  · obtain ⟨_, _, _, _, rfl, _⟩ := h
    rfl
  · have hu := hu_of hr
    refine ⟨_, (pss_one (ps_ret (pe_callB (cr_sum rfl) (by rfl) (T_sum T) (by decide +kernel) (pa_cons (pe_lc (own := [("word", 2), ("times", 3)]) rfl sc_law_many.nd (pi_list (pv 0)) (blkOk_by (own := [("word", 2), ("times", 3)]) (N := ["kinds", "kind", "word", "times", "one"]) (sc := defScope s_law_many) (by decide +kernel)) (fun _ _ _ _ _ => (pg_tupK (K := K) (n := 2) rfl rfl (pgs_cons (pg_name (i := 2) sc_law_many.nd rfl (Or.inl rfl)) (pgs_cons (pg_name (i := 3) sc_law_many.nd rfl (Or.inl rfl)) pgs_nil)))) (fun _ _ _ _ _ => pts_nil) (fun _ _ _ _ _ => (pe_op op_mul (pv 3) (pe_callB (cq_lenK (K := K) rfl) (by rfl) (T_len T) PySem.boot_len (pa_cons (pe_lc (own := [("one", 4)]) rfl sc_law_many.nd (pi_str (pv 2)) (blkOk_by (own := [("one", 4)]) (N := ["kinds", "kind", "word", "times", "one"]) (sc := ⟨.function, [(Str.ofString ".0", .local), (Str.ofString "word", .local), (Str.ofString "times", .local), (Str.ofString "len", .globalImplicit), (Str.ofString "kind", .cell)], false, false, []⟩) (by decide +kernel)) (fun _ _ _ _ _ => (pg_name (i := 4) sc_law_many.nd rfl (Or.inl rfl))) (fun _ _ _ _ _ => (pts_one (pt_cmpR op_eq (pv 4) (pv 1) (nomark _)))) (fun _ _ _ _ _ => (pv 4))) pa_nil))))) pa_nil)))), ?_⟩
    walk_at "cx"
    obtain ⟨a, xs, ks, k, rfl, h1, hR, hl, q⟩ := h
    walk_at "rd"
    rename_i D hD
    refine lc_it walk_list (fun i H' => Same H H' ∧ H' D = some (.lst ((ks.take i).map fun y => V.int (y.2 * ((y.1.ks.filter fun j => decide (j = k)).length : Int))))) ⟨Same.new hD, upd_same⟩ (fun _ _ _ z => z.1.seq h1) (fun i y Ha Hb hi hs hy => ?_) (fun Ha hs => ?_)
    · obtain ⟨s1, hd⟩ := hs
      obtain ⟨rfl, hc⟩ := hy
      obtain ⟨ea, x, rfl, hx, hea⟩ := hR.get hc
      have hea2 := s1 _ _ hea
      have hi2 : i < ks.length := (List.getElem?_eq_some_iff.mp hx).1
      have hw2 := wd_le x.1
      walk_at "rd"
      rename_i C hC
      refine lc_it walk_str (fun j H' => Same Hb H' ∧ H' C = some (.lst (((x.1.ks.take j).filter fun o => decide (o = k)).map kv))) ⟨Same.new hC, upd_same⟩ (fun _ _ _ _ => trivial) (fun j y Hc Hd hj hs hy => ?_) (fun Hc hs => ?_)
      · obtain ⟨s4, h4⟩ := hs
        obtain ⟨rfl, c, hc, rfl⟩ := hy
        obtain ⟨z, hz, ek⟩ := wd_at hc
        rw [ek]
        have hj2 : j < sizeLine := Nat.lt_of_lt_of_le hj (by rw [wd_size]; exact wd_len x.1)
        walk_at "rd"
        rw [dec_kv]
        by_cases hzk : z = k
        · refine r_ifT (by rw [decide_eq_true hzk]) ?_
          walk_at "rd"
          exact lc_keep hC s4 h4 hj2 hz (Same.refl _) (decide_eq_true hzk) rfl
        · refine r_ifF (by rw [decide_eq_false hzk]) ?_
          exact lc_drop s4 h4 hz (decide_eq_false hzk)
      · obtain ⟨s4, h4⟩ := hs
        rw [wd_size, List.take_length] at h4
        have hfl := List.length_filter_le (fun o => decide (o = k)) x.1.ks
        walk_at "rd"
        refine r_I (.inr ?_) ?_
        · rw [List.length_map]
          omega
        refine ⟨_, s4 _ _ hd, ?_, Same.mut (s1.trans s4) hD, ?_⟩
        · rw [List.length_map, List.length_take]
          omega
        · rw [upd_same, List.take_succ, hx, List.map_append, List.length_map]
          rfl
    · obtain ⟨s1, hd⟩ := hs
      rw [hR.len, List.take_length] at hd
      walk_at "rd"
      refine r_sum (ns := ks.map fun y => y.2 * ((y.1.ks.filter fun j => decide (j = k)).length : Int)) (SqL.of (by rw [hd, List.map_map]; rfl)) ?_
      exact q _ s1
theorem u_lmk {H : Hp} {Q : VK} {E : XK} {a : Addr} {xs : List V} {ks : List (Wd × Int)} {k : Kd} (h1 : SqL K H a xs) (hR : Rows H kiV xs ks) (hl : ks.length < sizeLine) (q : ∀ H', Same H H' → Q (.int (kdW k ks)) H') : spLmk K [.ref a, kv k] H Q E := ⟨a, xs, ks, k, rfl, h1, hR, hl, q⟩
def spLgr (K : PySem.W.Frag) : Sp := fun vs H Q _ => ∃ (ar a : Addr) (r : Rl) (xs : List V) (rs : List Run), vs = [.ref ar, .ref a] ∧ SqT K H ar r.vs ∧ r.Ok ∧ SqL K H a xs ∧ Rows H runV xs rs ∧ (∀ x ∈ rs, x.2.2.natAbs < 2 ^ 800) ∧ ∀ H', Same H H' → Q (.int (grpN r none rs)) H'
theorem ok_law_groups (T : Txt K mg) : C8.Cal P w K mg base 5 "_law_groups" (spLgr K) [] := by
  refine calD (D_law_groups T) (T_law_groups T) sc_law_groups (fun _ _ _ _ _ _ us hl => match us, hl with | [_, _], _ => rfl) (fun vs H Q E h => ?_) (fun cdv A outer s H vs Q E hr h => ?_)
  · obtain ⟨_, _, _, _, _, rfl, _⟩ := h
    rfl
  · have hu := hu_of hr
    refine ⟨_, (pss_cons (ps_asg (pe_tup (pa_cons pe_int (pa_cons pe_non pa_nil))) (pg_tup (n := 2) rfl (pgs_cons (pg_name (i := 2) sc_law_groups.nd rfl (Or.inl rfl)) (pgs_cons (pg_name (i := 3) sc_law_groups.nd rfl (Or.inl rfl)) pgs_nil))))
      (pss_cons (ps_for PassesOwn.never rfl (pi_list (pv 1)) (pg_tup (n := 3) rfl (pgs_cons (pg_name (i := 4) sc_law_groups.nd rfl (Or.inl rfl)) (pgs_cons (pg_name (i := 5) sc_law_groups.nd rfl (Or.inl rfl)) (pgs_cons (pg_name (i := 6) sc_law_groups.nd rfl (Or.inl rfl)) pgs_nil))))
      (pss_cons (ps_if (PW.pt (pw_or (pt_cmpR oq_isN (pv 3) pe_non (nomark _)) (pw_or1 (pt_cmpR op_gt (pv 4) (pv 3) (nomark _)))))
      (pss_one (ps_set (i := 2) sc_law_groups.nd rfl (Or.inl rfl) (pe_op op_add (pv 2) pe_int)))
      pss_nil)
      (pss_one (ps_set (i := 3) sc_law_groups.nd rfl (Or.inl rfl) (pe_op op_add (pv 4) (pe_op op_mulW (pv 6) (pe_callB (cr_sum rfl) (by rfl) (T_sum T) (by decide +kernel) (pa_cons (pe_lc (own := [("kind", 7)]) rfl sc_law_groups.nd (pi_str (pv 5)) (blkOk_by (own := [("kind", 7)]) (N := ["rules", "runs_here", "found", "end", "begin", "word", "times", "kind"]) (sc := defScope s_law_groups) (by decide +kernel)) (fun _ _ _ _ _ => (pg_name (i := 7) sc_law_groups.nd rfl (Or.inl rfl))) (fun _ _ _ _ _ => pts_nil) (fun _ _ _ _ _ => (C8.pe_c (ok_period T) hr (by decide) rfl (pa_cons (pv 0) (pa_cons (pv 7) pa_nil))))) pa_nil))))))))
      (pss_one (ps_ret (pv 2))))), ?_⟩
    walk_at "cx"
    obtain ⟨ar, a, r, xs, rs, rfl, h1, ok, h2, hR, hb, q⟩ := h
    walk_at "rd"
    refine for_it walk_list (fun i σ Ha => ∃ (v4 v5 v6 v7 : Option V) (n : Int) (last : Option Int), σ = [some (.ref ar), some (.ref a), some (.int n), some (lastV last), v4, v5, v6, v7] ∧ Same H Ha ∧ n + grpN r last (rs.drop i) = grpN r none rs) ⟨_, _, _, _, 0, none, rfl, Same.new (by assumption), Int.zero_add _⟩ (fun i σ Ha _ z => by obtain ⟨_, _, _, _, _, _, _, s, _⟩ := z; exact s.seq h2) ?_ ?_
    · rintro i y σ Ha Hb hi ⟨v4, v5, v6, v7, n, last, rfl, s1, hn⟩ ⟨rfl, hy⟩
      obtain ⟨ea, x, rfl, hx, hea⟩ := hR.get hy
      have hea2 := s1 _ _ hea
      have hpz := Wd.per_sz ok x.2.1
      have hxb := hb x (List.mem_of_getElem? hx)
      rw [drop_cons hx] at hn
      have hper : (x.2.1.ks.map r.per).sum = x.2.1.per r := rfl
      walk_at "rd"
      obtain ⟨n', hn', hg⟩ : ∃ n' : Int, n' + grpN r (some (runEnd r x)) (rs.drop (i + 1)) = grpN r none rs ∧ ((last = none ∧ n' = n + 1) ∨ ∃ e, last = some e ∧ ((e < x.1 ∧ n' = n + 1) ∨ (¬ e < x.1 ∧ n' = n))) := by
        cases last with
        | none => exact ⟨n + 1, by rw [← hn]; show _ = n + (1 + _); omega, .inl ⟨rfl, rfl⟩⟩
        | some e =>
          by_cases z : e < x.1
          · refine ⟨n + 1, ?_, .inr ⟨e, rfl, .inl ⟨z, rfl⟩⟩⟩
            rw [← hn]
            show _ = n + ((if decide (e < x.1) = true then 1 else 0) + _)
            rw [if_pos (decide_eq_true z)]
            omega
          · refine ⟨n, ?_, .inr ⟨e, rfl, .inr ⟨z, rfl⟩⟩⟩
            rw [← hn]
            show _ = n + ((if decide (e < x.1) = true then 1 else 0) + _)
            rw [decide_eq_false z]
            show _ = n + (0 + _)
            omega
      clear hn
      rcases hg with ⟨rfl, rfl⟩ | ⟨e, rfl, ⟨z, rfl⟩ | ⟨z, rfl⟩⟩
      case' inl =>
        refine r_ifT rfl ?_
        refine r_ifT rfl ?_
        walk_at "rd"
        generalize n + 1 = n2 at *
      case' inr.inl =>
        refine r_ifF rfl ?_
        rw [show lastV (some e) = V.int e from rfl]
        walk_at "rd"
        refine r_ifT (decide_eq_true z) ?_
        walk_at "rd"
        generalize n + 1 = n2 at *
      case' inr.inr =>
        refine r_ifF rfl ?_
        rw [show lastV (some e) = V.int e from rfl]
        walk_at "rd"
        refine r_ifF (decide_eq_false z) ?_
        walk_at "rd"
      all_goals
        rename_i D hD
        refine lc_it walk_str (fun j H' => Same Hb H' ∧ H' D = some (.lst ((List.range j).map fun j => V.int (r.per ((x.2.1.ks[j]?).getD .s))))) (lc_0 hD) (fun _ _ _ _ => trivial) (fun j y Hc Hd hj hs hy => ?_) (fun Hc hs => ?_)
        · obtain ⟨s4, hd⟩ := hs
          obtain ⟨rfl, c, hc, rfl⟩ := hy
          obtain ⟨k, hk, ek⟩ := wd_at hc
          rw [ek]
          have hj2 : j < sizeLine := Nat.lt_of_lt_of_le hj (by rw [wd_size]; exact wd_len x.2.1)
          walk_at "rd"
          refine u_pd (Same.tup (s1.trans s4) h1) ok fun H5 s5 => ?_
          exact lc_end hD s4 hd hj2 s5 (by rw [hk]; rfl)
        · obtain ⟨s4, hd⟩ := hs
          walk_at "rd"
          rw [wd_size, range_map (f := fun k => V.int (r.per k))] at hd
          refine r_sum (ns := x.2.1.ks.map r.per) (SqL.of (by rw [hd, List.map_map]; rfl)) ?_
          refine r_I (wide_mul (a := 800) (b := 302) hxb (abs_of (show 0 ≤ x.2.1.per r by omega) hpz.2) (by decide) (by decide) (by decide)) ?_
          walk_at "rd"
          exact ⟨_, _, _, _, _, some (runEnd r x), rfl, s1.trans s4, hn'⟩
    · rintro σ Ha ⟨v4, v5, v6, v7, n, last, rfl, s1, hn⟩
      rw [hR.len, List.drop_length] at hn
      have hn2 : n = grpN r none rs := by rw [← hn]; exact (Int.add_zero _).symm
      walk_at "rd"
      rw [hn2]
      exact q _ s1
theorem u_lgr {H : Hp} {Q : VK} {E : XK} {ar a : Addr} {r : Rl} {xs : List V} {rs : List Run} (h1 : SqT K H ar r.vs) (ok : r.Ok) (h2 : SqL K H a xs) (hR : Rows H runV xs rs) (hb : ∀ x ∈ rs, x.2.2.natAbs < 2 ^ 800) (q : ∀ H', Same H H' → Q (.int (grpN r none rs)) H') : spLgr K [.ref ar, .ref a] H Q E := ⟨ar, a, r, xs, rs, rfl, h1, ok, h2, hR, hb, q⟩
end
end
section
section
variable {P : Program} {w : World} {K : PySem.W.Frag} {mg : Str → Option Value} {base : Heap}
theorem sl_at2 {i c : Nat} (h : ("sl" : Str).cps[i]? = some c) : ∃ k, ([Kd.s, .l] : List Kd)[i]? = some k ∧ V.str ⟨#[c]⟩ = kv k := by
  rw [show ("sl" : Str) = (Wd.two .s).str by decide +kernel] at h
  exact wd_at h
theorem sl_sz : ("sl" : Str).cps.size = 2 := by decide +kernel
theorem bg_str (k : Kd) : ("begin " : Str) ++ k.str = (Sw.begin k).str ∧ ("begin " : Str).length + k.str.length ≤ sizeLine := by cases k <;> decide +kernel
theorem r_eqKB {H : Hp} {Q : VK} {a p : Addr} {j k : Kd} {b c : Bool} (hx : SqT K H a [kv j, .bl b]) (hp : SqT K H p [kv k, .bl c]) (q : Q (.bl (decide (j = k ∧ b = c))) H) : rEqD K (.ref a) (.ref p) H Q := by
  have e : PyData.eqv (.tuple ([kv j, .bl b].map fd)) (.tuple ([kv k, .bl c].map fd)) = decide (j = k ∧ b = c) := by cases j <;> cases k <;> cases b <;> cases c <;> decide +kernel
  refine ⟨.tuple ([kv j, .bl b].map fd), .tuple ([kv k, .bl c].map fd), .tup hx (dpAll_flat (by cases j <;> rfl)), .tup hp (dpAll_flat (by cases k <;> rfl)), by cases j <;> cases b <;> decide +kernel, by cases k <;> cases c <;> decide +kernel, ?_⟩
  rw [e]
  exact q
theorem evN_filter (k : Kd) (b : Bool) : ∀ es : List Ev, ((es.filter fun e => decide (e.2.1 = k ∧ e.2.2 = b)).length : Int) = evN k b es
  | [] => rfl
  | (u, j, c) :: es => by
    have ih := evN_filter k b es
    show _ = (if j = k ∧ c = b then (1 : Int) else 0) + evN k b es
    by_cases z : j = k ∧ c = b
    · rw [List.filter_cons_of_pos (by simpa using z), if_pos z, ← ih, List.length_cons]
      omega
    · rw [List.filter_cons_of_neg (by simpa using z), if_neg z, ← ih]
      omega
def preW (b : Bool) : Str := if b then "press " else "release "
def preS (b : Bool) (k : Kd) : Sw := if b then .press k else .release k
theorem pre_str (b : Bool) (k : Kd) : preW b ++ k.str = (preS b k).str ∧ (preW b).length + k.str.length ≤ sizeLine := by cases b <;> cases k <;> decide +kernel
theorem RecF.pre {r : Rl} {es : List Ev} (F : RecF r es) (b : Bool) (k : Kd) : (behind r es false).cnt (preS b k) = ((es.filter fun e => decide (e.2.1 = k ∧ e.2.2 = b)).length : Int) := by
  rw [evN_filter]
  cases b
  · exact (F.press k).2
  · exact (F.press k).1
theorem rtot_le : ∀ {rs : List Run}, (∀ x ∈ rs, 1 ≤ x.2.2 ∧ x.2.2.natAbs < 2 ^ 800) → rtot rs ≤ (rs.length : Int) * 2 ^ 801
  | [], _ => by show (0 : Int) ≤ _; omega
  | x :: rs, h => by
    have ih := rtot_le (rs := rs) fun y hy => h y (List.mem_cons_of_mem _ hy)
    obtain ⟨h1, h2⟩ := h x (List.mem_cons_self ..)
    have hw := wd_le x.2.1
    have h5 : (x.2.1.ks.length : Int) * x.2.2 ≤ 2 * x.2.2 := Int.mul_le_mul_of_nonneg_right (by omega) (by omega)
    show (x.2.1.ks.length : Int) * x.2.2 + rtot rs ≤ _
    rw [List.length_cons, Int.natCast_add, Int.add_mul]
    omega
theorem RecF.cb {r : Rl} {es : List Ev} (F : RecF r es) (k : Kd) : 0 ≤ (behind r es false).cnt (.begin k) ∧ (behind r es false).cnt (.begin k) < 2 ^ 900 := by
  have h1 := F.total
  obtain ⟨b1, b2⟩ := tidy_bounds F.ok F.good.1 F.good.2
  have h2 := rtot_le fun x hx => ⟨(b1 x hx).1, (b1 x hx).2.1⟩
  have nn : ∀ j, 0 ≤ (behind r es false).cnt (.begin j) := fun j => by
    rw [← (F.begin j).2, kdN_sing]
    omega
  have n1 := nn .s
  have n2 := nn .l
  have h3 : ((behind r es false).tidy.length : Int) * 2 ^ 801 ≤ 1000000 * 2 ^ 801 := Int.mul_le_mul_of_nonneg_right (by omega) (by decide)
  have e : (1000000 : Int) * 2 ^ 801 < 2 ^ 900 := by decide
  refine ⟨nn k, ?_⟩
  cases k <;> omega
theorem rem_eq (r : Rl) : (if (!decide (V.str r.rem.str = V.str "none")) = true then (1 : Int) else 0) = r.remI := by
  unfold Rl.remI
  cases r.rem <;> decide +kernel
theorem ag_eq (r : Rl) : (if r.ag = true then (1 : Int) else 0) = r.agI := rfl
theorem mul_rem {r : Rl} {c : Int} (h0 : 0 ≤ c) (h : c < 2 ^ 900) : CMulW c r.remI := wide_mul (a := 900) (b := 1) (abs_of h0 h) (by have := r.I_nn; omega) (by decide) (by decide) (by decide)
theorem mul_ag {r : Rl} {c : Int} (h0 : 0 ≤ c) (h : c < 2 ^ 900) : CMulW c r.agI := wide_mul (a := 900) (b := 1) (abs_of h0 h) (by have := r.I_nn; omega) (by decide) (by decide) (by decide)
def hearK (r : Rl) : List Kd := if (decide (r.rem ≠ .no) || r.ag) = true then [Kd.s, .l].filter fun k => decide (0 < r.d ∧ r.d < r.per k) else []
theorem hearK_sum (r : Rl) (C : Kd → Int) : ((hearK r).map C).sum = r.hearI .s * C .s + r.hearI .l * C .l := by
  unfold hearK Rl.hearI Rl.canHear
  by_cases h : (decide (r.rem ≠ .no) || r.ag) = true
  · rw [if_pos h, h, Bool.true_and, Bool.true_and]
    by_cases d0 : 0 < r.d <;> by_cases s1 : r.d < r.per .s <;> by_cases l1 : r.d < r.per .l <;> simp [d0, s1, l1]
  · rw [if_neg h, show (decide (r.rem ≠ .no) || r.ag) = false by simpa using h, Bool.false_and, Bool.false_and]
    simp
def spCr (K : PySem.W.Frag) : Sp := fun vs H Q _ => ∃ (ar a : Addr) (r : Rl) (xs : List V) (es : List Ev), vs = [.ref ar, .ref a] ∧ SqT K H ar r.vs ∧ SqL K H a xs ∧ Rows H evV xs es ∧ RecF r es ∧ ∀ H', Same H H' → Q (.bl true) H'
theorem ok_law_counts_right (T : Txt K mg) : C8.Cal P w K mg base 14 "_law_counts_right" (spCr K) [] := by
  refine calD (D_law_counts_right T) (T_law_counts_right T) sc_law_counts_right (fun _ _ _ _ _ _ us hl => match us, hl with | [_, _], _ => rfl) (fun vs H Q E h => ?_) (fun cdv A outer s H vs Q E hr h => ?_)
  · obtain ⟨_, _, _, _, _, rfl, _⟩ := h
    rfl
  · have hu := hu_of hr
    refine ⟨_, (pss_cons (ps_asg (pe_tup (pa_cons (C8.pe_c (ok_kinds_of T) hr (by decide) rfl (pa_cons (pv 0) (pa_cons (pv 1) pa_nil))) (pa_cons (pe_lc (own := [("kind", 11)]) rfl sc_law_counts_right.nd (pi_str pe_str) (blkOk_by (own := [("kind", 11)]) (N := ["rules", "record", "kinds", "counts", "idles", "lever", "word", "is_press", "due", "most", "hears", "kind", "event"]) (sc := defScope s_law_counts_right) (by decide +kernel)) (fun _ _ _ _ _ => (pg_name (i := 11) sc_law_counts_right.nd rfl (Or.inl rfl))) (fun _ _ _ _ _ => pts_nil) (fun _ _ _ _ _ => (C8.pe_c (ok_count_word T) hr (by decide) rfl (pa_cons (pv 0) (pa_cons (pv 1) (pa_cons (pe_op oq_addZ pe_str (pv 11)) pa_nil)))))) pa_nil))) (pg_tup (n := 2) rfl (pgs_cons (pg_name (i := 2) sc_law_counts_right.nd rfl (Or.inr rfl)) (pgs_cons (pg_name (i := 3) sc_law_counts_right.nd rfl (Or.inr rfl)) pgs_nil))))
      (pss_cons (ps_if (PW.pt (pw_or (pt_cmpR (op_neD hr.units) (pv 3) (pe_lc (own := [("kind", 11)]) rfl sc_law_counts_right.nd (pi_str pe_str) (blkOk_by (own := [("kind", 11)]) (N := ["rules", "record", "kinds", "counts", "idles", "lever", "word", "is_press", "due", "most", "hears", "kind", "event"]) (sc := defScope s_law_counts_right) (by decide +kernel)) (fun _ _ _ _ _ => (pg_name (i := 11) sc_law_counts_right.nd rfl (Or.inl rfl))) (fun _ _ _ _ _ => pts_nil) (fun _ _ _ _ _ => (C8.pe_c (ok_law_many T) hr (by decide) rfl (pa_cons (pv 2) (pa_cons (pv 11) pa_nil))))) (nomark _)) (pw_or1 (pt_cmpR op_ne (pe_callB (cr_sum rfl) (by rfl) (T_sum T) (by decide +kernel) (pa_cons (pv 3) pa_nil)) (C8.pe_c (ok_count_marks T) hr (by decide) rfl (pa_cons (pv 0) (pa_cons (pv 1) pa_nil))) (nomark _)))))
      (pss_one (ps_ret pe_bl))
      pss_nil)
      (pss_cons (ps_set (i := 4) sc_law_counts_right.nd rfl (Or.inl rfl) (C8.pe_c (ok_count_word T) hr (by decide) rfl (pa_cons (pv 0) (pa_cons (pv 1) (pa_cons pe_str pa_nil)))))
      (pss_cons (ps_if (pt_not (pt_chain op_le op_le (C8.pe_c (ok_law_groups T) hr (by decide) rfl (pa_cons (pv 0) (pa_cons (C8.pe_c (ok_runs_of T) hr (by decide) rfl (pa_cons (pv 0) (pa_cons (pv 1) pa_nil))) pa_nil))) (pv 4) (pe_op op_fdiv (pe_callB cq_len (by rfl) (T_len T) PySem.boot_len (pa_cons (pv 1) pa_nil)) pe_int)))
      (pss_one (ps_ret pe_bl))
      pss_nil)
      (pss_cons (ps_for PassesOwn.never rfl (pi_str pe_str) (pg_name (i := 5) sc_law_counts_right.nd rfl (Or.inr rfl))
      (pss_one (ps_for PassesOwn.never rfl (pi_list (pe_lst (pa_cons (pe_tup (pa_cons pe_str (pa_cons pe_bl pa_nil))) (pa_cons (pe_tup (pa_cons pe_str (pa_cons pe_bl pa_nil))) pa_nil)))) (pg_tup (n := 2) rfl (pgs_cons (pg_name (i := 6) sc_law_counts_right.nd rfl (Or.inl rfl)) (pgs_cons (pg_name (i := 7) sc_law_counts_right.nd rfl (Or.inr rfl)) pgs_nil)))
      (pss_cons (ps_setLc (i := 8) (own := [("event", 12)]) rfl sc_law_counts_right.nd rfl rfl (sw_true rfl rfl rfl (by decide +kernel)) (pi_list (pv 1)) (blkOk_by (own := [("event", 12)]) (N := ["rules", "record", "kinds", "counts", "idles", "lever", "word", "is_press", "due", "most", "hears", "kind", "event"]) (sc := defScope s_law_counts_right) (by decide +kernel)) (fun _ _ _ _ _ => (pg_name (i := 12) sc_law_counts_right.nd rfl (Or.inl rfl))) (fun _ _ _ _ _ => (pts_one (pt_cmpR (op_eqDK (K := K) rfl hr.units) (pe_slice (sl_tupK (K := K) rfl) (pv 12) (po_some pe_int) po_none) (pe_tup (pa_cons (pv 5) (pa_cons (pv 7) pa_nil))) (nomark _)))) (fun _ _ _ _ _ => pe_int))
      (pss_one (ps_if (pt_cmpR op_ne (C8.pe_c (ok_count_word T) hr (by decide) rfl (pa_cons (pv 0) (pa_cons (pv 1) (pa_cons (pe_op oq_addZ (pv 6) (pv 5)) pa_nil)))) (pe_callB cq_len (by rfl) (T_len T) PySem.boot_len (pa_cons (pv 8) pa_nil)) (nomark _))
      (pss_one (ps_ret pe_bl))
      pss_nil))))))
      (pss_cons (ps_set (i := 9) sc_law_counts_right.nd rfl (Or.inl rfl) (pe_lst (pa_cons (pe_op op_add (pe_op op_mulW (pe_ix ix_list (pv 3) pe_int (fun _ _ => rfl)) (pe_callTy cq_int1 (by rfl) (T_int T) (by decide +kernel) (pa_cons (pe_cmpR op_ne (pe_ix ix_tup (pv 0) pe_int (fun _ _ => rfl)) pe_str (nomark _)) pa_nil))) (pe_op op_mulW (pe_ix ix_list (pv 3) pe_int (fun _ _ => rfl)) (pe_callTy cq_int1 (by rfl) (T_int T) (by decide +kernel) (pa_cons (pe_ix ix_tup (pv 0) pe_int (fun _ _ => rfl)) pa_nil)))) pa_nil)))
      (pss_cons (ps_expr (pe_bm PySem.F.plainAttrs_list PySem.F.slot_list_append PySem.F.type_list_append mt_append (pv 9) (pa_cons (pe_op op_add (pe_op op_mulW (pe_ix ix_list (pv 3) pe_int (fun _ _ => rfl)) (pe_callTy cq_int1 (by rfl) (T_int T) (by decide +kernel) (pa_cons (pe_cmpR op_ne (pe_ix ix_tup (pv 0) pe_int (fun _ _ => rfl)) pe_str (nomark _)) pa_nil))) (pe_op op_mulW (pe_ix ix_list (pv 3) pe_int (fun _ _ => rfl)) (pe_callTy cq_int1 (by rfl) (T_int T) (by decide +kernel) (pa_cons (pe_ix ix_tup (pv 0) pe_int (fun _ _ => rfl)) pa_nil)))) pa_nil)))
      (pss_cons (ps_if (PW.pt (pw_or (pt_cmpR op_gt (C8.pe_c (ok_count_word T) hr (by decide) rfl (pa_cons (pv 0) (pa_cons (pv 1) (pa_cons pe_str pa_nil)))) (pe_ix ix_list (pv 9) pe_int (fun _ _ => rfl)) (nomark _)) (pw_or1 (pt_cmpR op_gt (C8.pe_c (ok_count_word T) hr (by decide) rfl (pa_cons (pv 0) (pa_cons (pv 1) (pa_cons pe_str pa_nil)))) (pe_ix ix_list (pv 9) pe_int (fun _ _ => rfl)) (nomark _)))))
      (pss_one (ps_ret pe_bl))
      pss_nil)
      (C8.pss_cut (ps_set (i := 10) sc_law_counts_right.nd rfl (Or.inl rfl) (pe_ifExp (PW.pt (pw_or (pt_cmpR op_ne (pe_ix ix_tup (pv 0) pe_int (fun _ _ => rfl)) pe_str (nomark _)) (pw_or1 (pt_val (pe_ix ix_tup (pv 0) pe_int (fun _ _ => rfl)))))) (pe_lc (own := [("kind", 11)]) rfl sc_law_counts_right.nd (pi_str pe_str) (blkOk_by (own := [("kind", 11)]) (N := ["rules", "record", "kinds", "counts", "idles", "lever", "word", "is_press", "due", "most", "hears", "kind", "event"]) (sc := defScope s_law_counts_right) (by decide +kernel)) (fun _ _ _ _ _ => (pg_name (i := 11) sc_law_counts_right.nd rfl (Or.inl rfl))) (fun _ _ _ _ _ => (pts_one (pt_chain op_lt op_lt pe_int (pe_ix (ix_tupK (K := K) rfl) (pv 0) pe_int (fun _ _ => rfl)) (C8.pe_c (ok_period T) hr (by decide) rfl (pa_cons (pv 0) (pa_cons (pv 11) pa_nil)))))) (fun _ _ _ _ _ => (pv 11))) (pe_lst pa_nil)))
      (pss_one (ps_ret (pe_cmpR op_eq (C8.pe_c (ok_count_word T) hr (by decide) rfl (pa_cons (pv 0) (pa_cons (pv 1) (pa_cons pe_str pa_nil)))) (pe_callB (cr_sum rfl) (by rfl) (T_sum T) (by decide +kernel) (pa_cons (pe_lc (own := [("kind", 11)]) rfl sc_law_counts_right.nd (pi_list (pv 10)) (blkOk_by (own := [("kind", 11)]) (N := ["rules", "record", "kinds", "counts", "idles", "lever", "word", "is_press", "due", "most", "hears", "kind", "event"]) (sc := defScope s_law_counts_right) (by decide +kernel)) (fun _ _ _ _ _ => (pg_name (i := 11) sc_law_counts_right.nd rfl (Or.inl rfl))) (fun _ _ _ _ _ => pts_nil) (fun _ _ _ _ _ => (pe_ix (ix_listK (K := K) rfl) (pv 3) (pe_sixN pe_str (pv 11)) (fun _ _ => rfl)))) pa_nil)) (nomark _))))))))))))), ?_⟩
    walk_at "cx"
    obtain ⟨ar, a, r, xs, es, rfl, h1, h2, hR, F, q⟩ := h
    have ok := F.ok
    have ho := F.ro
    have hg := F.good.1
    have hr := F.good.2
    walk_at "rd"
    refine u_ko h1 ok h2 hR ho hg fun p1 ys1 H1 L1 => ?_
    walk_at "rd"
    rename_i D hD
    refine lc_it walk_str (fun i H' => Same H1 H' ∧ H' D = some (.lst ((List.range i).map fun i => V.int ((behind r es false).cnt (.begin ((([Kd.s, .l] : List Kd)[i]?).getD .s)))))) (lc_0 hD) (fun _ _ _ _ => trivial) (fun i y Ha Hb hi hs hy => ?_) (fun Ha hs => ?_)
    · obtain ⟨s1, hd⟩ := hs
      obtain ⟨rfl, c, hc, rfl⟩ := hy
      obtain ⟨k, hk, ek⟩ := sl_at2 hc
      rw [ek]
      walk_at "rd"
      refine r_addZ (j := k.str) (bg_str k).2 ?_
      rw [(bg_str k).1]
      walk_at "rd"
      have s2 := L1.s.trans s1
      refine u_cw (Same.tup s2 h1) ok (s2.seq h2) (hR.ex s2) ho hg fun H5 s5 => ?_
      have hi3 : i < sizeLine := Nat.lt_of_lt_of_le hi (by rw [sl_sz]; decide)
      exact lc_end hD s1 hd hi3 s5 (by rw [hk]; rfl)
    · obtain ⟨s1, hd⟩ := hs
      rw [sl_sz] at hd
      replace hd : Ha D = some (.lst [V.int ((behind r es false).cnt (.begin .s)), V.int ((behind r es false).cnt (.begin .l))]) := hd
      have hL1 := s1 _ _ L1.hL
      have S1 := L1.s.trans s1
      walk_at "rd"
      rename_i T hT D2 hD2
      have S2 := S1.trans (Same.new (o := .tup [V.ref p1, V.ref D]) hT)
      have hd2 := Same.new (o := .tup [V.ref p1, V.ref D]) hT _ _ hd
      have hL2 := Same.new (o := .tup [V.ref p1, V.ref D]) hT _ _ hL1
      have hR2 := (L1.hR.ex s1).ex (Same.new (o := .tup [V.ref p1, V.ref D]) hT)
      generalize upd Ha T (.tup [V.ref p1, V.ref D]) = H2 at *
      obtain ⟨ktot, klen⟩ := kinds_tot hg
      refine lc_it walk_str (fun i H' => Same H2 H' ∧ H' D2 = some (.lst ((List.range i).map fun i => V.int (kdW ((([Kd.s, .l] : List Kd)[i]?).getD .s) (kindsOf r es))))) (lc_0 hD2) (fun _ _ _ _ => trivial) (fun i y Hb Hc hi hs hy => ?_) (fun Hb hs => ?_)
      · obtain ⟨s3, hd3⟩ := hs
        obtain ⟨rfl, c, hc, rfl⟩ := hy
        obtain ⟨k, hk, ek⟩ := sl_at2 hc
        rw [ek]
        walk_at "rd"
        refine u_lmk (SqL.of (s3 _ _ hL2)) (hR2.ex s3) (Nat.lt_of_le_of_lt klen (by decide)) fun H5 s5 => ?_
        have hi3 : i < sizeLine := Nat.lt_of_lt_of_le hi (by rw [sl_sz]; decide)
        exact lc_end hD2 s3 hd3 hi3 s5 (by rw [hk]; rfl)
      obtain ⟨s3, hd3⟩ := hs
      rw [sl_sz] at hd3
      replace hd3 : Hb D2 = some (.lst [V.int (kdW .s (kindsOf r es)), V.int (kdW .l (kindsOf r es))]) := hd3
      rw [(F.begin .s).1, (F.begin .l).1] at hd3
      have hd4 := s3 _ _ hd2
      have S3 := S2.trans s3
      refine r_neFlat (xs := [V.int ((behind r es false).cnt (.begin .s)), V.int ((behind r es false).cnt (.begin .l))]) rfl (SqL.of hd4) (SqL.of hd3) ?_
      walk_at "rd"
      refine r_sum (ns := [(behind r es false).cnt (.begin .s), (behind r es false).cnt (.begin .l)]) (SqL.of hd4) ?_
      walk_at "rd"
      refine u_com (Same.tup S3 h1) ok (S3.seq h2) (hR.ex S3) ho hg fun H4 s4 => ?_
      walk_at "rd"
      have et : V.int [(behind r es false).cnt (.begin .s), (behind r es false).cnt (.begin .l)].sum = V.int (rtot (behind r es false).tidy) := by
        rw [F.total]
        show V.int (_ + (_ + 0)) = _
        rw [Int.add_zero]
      refine r_ifF (by rw [decide_eq_true et]; rfl) ?_
      have S4 := S3.trans s4
      have hd5 := s4 _ _ hd4
      walk_at "rd"
      refine u_cw (x := .idle) (Same.tup S4 h1) ok (S4.seq h2) (hR.ex S4) ho hg fun H5 s5 => ?_
      have S5 := S4.trans s5
      have hd6 := s5 _ _ hd5
      walk_at "rd"
      refine u_rof (Same.tup S5 h1) ok (S5.seq h2) (hR.ex S5) ho hg fun p6 ys6 H6 L6 => ?_
      have S6 := S5.trans L6.s
      have hd7 := L6.s _ _ hd6
      walk_at "rd"
      refine u_lgr (Same.tup S6 h1) ok (SqL.of L6.hL) L6.hR (fun x hx => ((tidy_bounds ok hg hr).1 x hx).2.1) fun H7 s7 => ?_
      have S7 := S6.trans s7
      have hd8 := s7 _ _ hd7
      walk_at "rd"
      refine r_ifT (decide_eq_true F.groups.1) ?_
      walk_at "rd"
      refine r_I ⟨by decide, by decide⟩ ?_
      walk_at "rd"
      refine r_ifF (by rw [decide_eq_true (show (behind r es false).cnt .idle ≤ ((xs.length : Nat) : Int) / 2 by rw [hR.len]; exact F.groups.2)]; rfl) ?_
      have hR7 := hR.ex S7
      have hr7 := Same.tup S7 h1
      have hx7 := S7.seq h2
      clear S1 S2 S3 S4 S5 S6 hd hd2 hd3 hd4 hd5 hd6 hd7 s1 s3 s4 s5 s7 hL1 hL2 hR2 klen ktot L6 et
      walk_at "rd"
      refine for_it walk_str (fun i σ Hc => ∃ (v5 v6 v7 v8 v9 v10 v11 v12 : Option V), σ = [some (.ref ar), some (.ref a), some (.ref p1), some (.ref D), some (.int ((behind r es false).cnt .idle)), v5, v6, v7, v8, v9, v10, v11, v12] ∧ Same H7 Hc) ⟨_, _, _, _, _, _, _, _, rfl, Same.refl _⟩ (fun _ _ _ _ _ => trivial) ?_ ?_
      · rintro i y σ Hc He hi ⟨v5, v6, v7, v8, v9, v10, v11, v12, rfl, s8⟩ ⟨rfl, c, hc, rfl⟩
        obtain ⟨k, hk, ek⟩ := sl_at2 hc
        rw [ek]
        walk_at "rd"
        rename_i t1 ht1 t2 ht2 l hl
        have s9 := (s8.trans (Same.new (o := .tup [V.str "press ", V.bl true]) ht1)).trans (Same.new (o := .tup [V.str "release ", V.bl false]) ht2) |>.trans (Same.new (o := .lst [V.ref t1, V.ref t2]) hl)
        have e1 := Same.new (o := .lst [V.ref t1, V.ref t2]) hl _ _ (Same.new (o := .tup [V.str "release ", V.bl false]) ht2 t1 (.tup [V.str (preW true), V.bl true]) upd_same)
        have e2 := Same.new (o := .lst [V.ref t1, V.ref t2]) hl t2 (.tup [V.str (preW false), V.bl false]) upd_same
        have e3 : upd (upd (upd He t1 (.tup [V.str "press ", V.bl true])) t2 (.tup [V.str "release ", V.bl false])) l (.lst [V.ref t1, V.ref t2]) l = some (.lst [V.ref t1, V.ref t2]) := upd_same
        generalize upd (upd (upd He t1 (.tup [V.str "press ", V.bl true])) t2 (.tup [V.str "release ", V.bl false])) l (.lst [V.ref t1, V.ref t2]) = H8 at *
        refine for_it (walk_list (xs := [V.ref t1, V.ref t2])) (fun i σ Hc => ∃ (v6 v7 v8 v9 v10 v11 v12 : Option V), σ = [some (.ref ar), some (.ref a), some (.ref p1), some (.ref D), some (.int ((behind r es false).cnt .idle)), some (kv k), v6, v7, v8, v9, v10, v11, v12] ∧ Same H8 Hc) ⟨_, _, _, _, _, _, _, rfl, Same.refl _⟩ (fun _ _ _ _ z => by obtain ⟨_, _, _, _, _, _, _, _, z⟩ := z; exact SqL.of (z _ _ e3)) ?_ ?_
        · rintro j y σ Hc Hd hj ⟨w6, w7, w8, w9, w10, w11, w12, rfl, s10⟩ ⟨rfl, hy⟩
          obtain ⟨tt, b, rfl, hb⟩ : ∃ tt b, y = .ref tt ∧ H8 tt = some (.tup [V.str (preW b), V.bl b]) := by
            match j, hy with
            | 0, hy => cases hy; exact ⟨t1, true, rfl, e1⟩
            | 1, hy => cases hy; exact ⟨t2, false, rfl, e2⟩
          have hb2 := s10 _ _ hb
          have s11 := s9.trans s10
          have hx11 := s11.seq hx7
          have hR11 := hR7.ex s11
          walk_at "rd"
          rename_i D3 hD3
          refine lc_it walk_list (fun n H' => Same Hd H' ∧ H' D3 = some (.lst (((es.take n).filter fun e => decide (e.2.1 = k ∧ e.2.2 = b)).map fun _ => V.int 1))) ⟨Same.new hD3, upd_same⟩ (fun _ _ _ z => z.1.seq hx11) (fun n y Hf Hg hn hs hy => ?_) (fun Hf hs => ?_)
          · obtain ⟨s12, hd3⟩ := hs
            obtain ⟨rfl, hc⟩ := hy
            obtain ⟨ea, e, rfl, he, hea⟩ := hR11.get hc
            have hea2 := s12 _ _ hea
            have hn2 : n < es.length := (List.getElem?_eq_some_iff.mp he).1
            have hes := ho.2
            have hn3 : n < sizeLine := Nat.lt_of_lt_of_le (show n < 200 by omega) (by decide)
            walk_at "rd"
            rename_i p8 hp8 p9 hp9
            have t8 := Same.new (o := .tup (cutV (evV e) (some 1) none)) hp8
            have t9 := Same.new (o := .tup [kv k, V.bl b]) hp9
            refine r_eqKB (j := e.2.1) (b := e.2.2) (k := k) (c := b) (SqT.of (t9 _ _ upd_same)) (SqT.of upd_same) ?_
            walk_at "rd"
            by_cases z : e.2.1 = k ∧ e.2.2 = b
            · refine r_ifT (decide_eq_true z) ?_
              walk_at "rd"
              exact lc_keep hD3 s12 hd3 hn3 he (t8.trans t9) (decide_eq_true z) rfl
            · refine r_ifF (decide_eq_false z) ?_
              exact lc_drop ((s12.trans t8).trans t9) (t9 _ _ (t8 _ _ hd3)) he (decide_eq_false z)
          · obtain ⟨s12, hd3⟩ := hs
            rw [hR11.len, List.take_length] at hd3
            walk_at "rd"
            refine r_addZ (j := k.str) (pre_str b k).2 ?_
            rw [(pre_str b k).1]
            walk_at "rd"
            have s13 := s11.trans s12
            refine u_cw (x := preS b k) (Same.tup s13 hr7) ok (s13.seq hx7) (hR7.ex s13) ho hg fun Hg s14 => ?_
            have hd4 := s14 _ _ hd3
            walk_at "rd"
            rw [List.length_map, ← F.pre b k]
            refine r_ifF (by rw [decide_eq_true rfl]; rfl) ?_
            walk_at "rd"
            exact ⟨_, _, _, _, _, _, _, rfl, (s10.trans s12).trans s14⟩
        · rintro σ Hc ⟨w6, w7, w8, w9, w10, w11, w12, rfl, s10⟩
          exact ⟨_, _, _, _, _, _, _, _, rfl, s9.trans s10⟩
      · rintro σ Hc ⟨v5, v6, v7, v8, v9, v10, v11, v12, rfl, s8⟩
        have hd9 := s8 _ _ hd8
        have hr9 := Same.tup s8 hr7
        have hx9 := s8.seq hx7
        have hR9 := hR7.ex s8
        walk_at "rd"
        rw [rem_eq]
        refine r_I (mul_rem (F.cb .l).1 (F.cb .l).2) ?_
        walk_at "rd"
        rw [ag_eq]
        refine r_I (mul_ag (F.cb .s).1 (F.cb .s).2) ?_
        walk_at "rd"
        rename_i M hM
        have hd10 := Same.new (o := .lst [V.int ((behind r es false).cnt (.begin .l) * r.remI + (behind r es false).cnt (.begin .s) * r.agI)]) hM _ _ hd9
        rw [rem_eq]
        refine r_I (mul_rem (F.cb .s).1 (F.cb .s).2) ?_
        walk_at "rd"
        rw [ag_eq]
        refine r_I (mul_ag (F.cb .l).1 (F.cb .l).2) ?_
        walk_at "rd"
        have sM : Same Hc (upd (upd Hc M (.lst [V.int ((behind r es false).cnt (.begin .l) * r.remI + (behind r es false).cnt (.begin .s) * r.agI)])) M (.lst ([V.int ((behind r es false).cnt (.begin .l) * r.remI + (behind r es false).cnt (.begin .s) * r.agI)] ++ [V.int ((behind r es false).cnt (.begin .s) * r.remI + (behind r es false).cnt (.begin .l) * r.agI)]))) := Same.mut (Same.new hM) hM
        have eM : upd (upd Hc M (.lst [V.int ((behind r es false).cnt (.begin .l) * r.remI + (behind r es false).cnt (.begin .s) * r.agI)])) M (.lst ([V.int ((behind r es false).cnt (.begin .l) * r.remI + (behind r es false).cnt (.begin .s) * r.agI)] ++ [V.int ((behind r es false).cnt (.begin .s) * r.remI + (behind r es false).cnt (.begin .l) * r.agI)])) M = some (.lst ([V.int ((behind r es false).cnt (.begin .l) * r.remI + (behind r es false).cnt (.begin .s) * r.agI)] ++ [V.int ((behind r es false).cnt (.begin .s) * r.remI + (behind r es false).cnt (.begin .l) * r.agI)])) := upd_same
        clear hd10
        generalize upd (upd Hc M (.lst [V.int ((behind r es false).cnt (.begin .l) * r.remI + (behind r es false).cnt (.begin .s) * r.agI)])) M (.lst ([V.int ((behind r es false).cnt (.begin .l) * r.remI + (behind r es false).cnt (.begin .s) * r.agI)] ++ [V.int ((behind r es false).cnt (.begin .s) * r.remI + (behind r es false).cnt (.begin .l) * r.agI)])) = HM at *
        replace eM : HM M = some (.lst [V.int ((behind r es false).cnt (.begin .l) * r.remI + (behind r es false).cnt (.begin .s) * r.agI), V.int ((behind r es false).cnt (.begin .s) * r.remI + (behind r es false).cnt (.begin .l) * r.agI)]) := eM
        refine u_cw (x := .remember .s) (Same.tup sM hr9) ok (sM.seq hx9) (hR9.ex sM) ho hg fun H10 s10 => ?_
        have T10 := sM.trans s10
        have eM1 := s10 _ _ eM
        have m1 := F.rem .s
        have m2 := F.rem .l
        rw [Int.mul_comm r.agI, Int.mul_comm r.remI] at m1 m2
        walk_at "rd"
        refine r_ifF (decide_eq_false (show ¬ (behind r es false).cnt (.begin .l) * r.remI + (behind r es false).cnt (.begin .s) * r.agI < (behind r es false).cnt (.remember .s) by have := m1; rw [Int.add_comm] at this; exact Int.not_lt.mpr this)) ?_
        walk_at "rd"
        refine u_cw (x := .remember .l) (Same.tup T10 hr9) ok (T10.seq hx9) (hR9.ex T10) ho hg fun H11 s11 => ?_
        have T11 := T10.trans s11
        have eM2 := s11 _ _ eM1
        walk_at "rd"
        refine r_ifF (decide_eq_false (show ¬ (behind r es false).cnt (.begin .s) * r.remI + (behind r es false).cnt (.begin .l) * r.agI < (behind r es false).cnt (.remember .l) by have := m2; rw [Int.add_comm] at this; exact Int.not_lt.mpr this)) ?_
        walk_at "rd"
        have hd12 := T11 _ _ hd9
        have hr12 := Same.tup T11 hr9
        have hx12 := T11.seq hx9
        have hR12 := hR9.ex T11
        have S12 := (S7.trans s8).trans T11
        refine r_cutM (fun σ' H' => ∃ (l : Addr) (v5 v6 v7 v8 v9 v11 v12 : Option V), σ' = [some (.ref ar), some (.ref a), some (.ref p1), some (.ref D), some (.int ((behind r es false).cnt .idle)), v5, v6, v7, v8, v9, some (.ref l), v11, v12] ∧ Same H11 H' ∧ H' l = some (.lst ((hearK r).map kv))) ?_ ?_
        · dsimp only
          walk_at "rd"
          have hno : (!decide (V.str r.rem.str = V.str "none")) = decide (r.rem ≠ .no) := by cases r.rem <;> decide +kernel
          rw [hno]
          have hz : r.rem ≠ .no ∨ (¬ r.rem ≠ .no ∧ r.ag = true) ∨ (¬ r.rem ≠ .no ∧ r.ag ≠ true) := by
            by_cases z1 : r.rem ≠ .no
            · exact .inl z1
            · by_cases z2 : r.ag = true
              · exact .inr (.inl ⟨z1, z2⟩)
              · exact .inr (.inr ⟨z1, z2⟩)
          rcases hz with z1 | ⟨z1, z2⟩ | ⟨z1, z2⟩
          case' inl =>
            have hany : (decide (r.rem ≠ .no) || r.ag) = true := by rw [decide_eq_true z1]; rfl
            refine r_ifT (decide_eq_true z1) ?_
            refine r_ifT rfl ?_
            walk_at "rd"
          case' inr.inl =>
            have hany : (decide (r.rem ≠ .no) || r.ag) = true := by rw [z2, Bool.or_true]
            refine r_ifF (decide_eq_false z1) ?_
            walk_at "rd"
          case inr.inr =>
            refine r_ifF (decide_eq_false z1) ?_
            walk_at "rd"
            refine r_ifF (by simpa using z2) ?_
            walk_at "rd"
            rename_i D4 hD4
            refine ⟨D4, _, _, _, _, _, _, _, rfl, Same.new hD4, ?_⟩
            unfold hearK
            rw [if_neg (by simp [z2]; simpa using z1)]
            exact upd_same
          all_goals
            rename_i D4 hD4
            refine lc_it walk_str (fun i H' => Same H11 H' ∧ H' D4 = some (.lst ((([Kd.s, .l].take i).filter fun k => decide (0 < r.d ∧ r.d < r.per k)).map kv))) ⟨Same.new hD4, upd_same⟩ (fun _ _ _ _ => trivial) (fun i y Hb Hd hi hs hy => ?_) (fun Hb hs => ?_)
            · obtain ⟨s13, hd13⟩ := hs
              obtain ⟨rfl, c, hc, rfl⟩ := hy
              obtain ⟨k, hk, ek⟩ := sl_at2 hc
              rw [ek]
              have hi3 : i < sizeLine := Nat.lt_of_lt_of_le hi (by rw [sl_sz]; decide)
              have hr13 := Same.tup s13 hr12
              walk_at "rd"
              by_cases d0 : 0 < r.d
              · refine r_ifT (decide_eq_true d0) ?_
                walk_at "rd"
                refine u_pd hr13 ok fun H14 s14 => ?_
                walk_at "rd"
                by_cases d1 : r.d < r.per k
                · refine r_ifT (decide_eq_true d1) ?_
                  walk_at "rd"
                  exact lc_keep hD4 s13 hd13 hi3 hk s14 (decide_eq_true ⟨d0, d1⟩) rfl
                · refine r_ifF (decide_eq_false d1) ?_
                  exact lc_drop (s13.trans s14) (s14 _ _ hd13) hk (decide_eq_false fun z => d1 z.2)
              · refine r_ifF (decide_eq_false d0) ?_
                walk_at "rd"
                exact lc_drop s13 hd13 hk (decide_eq_false fun z => d0 z.1)
            · obtain ⟨s13, hd13⟩ := hs
              rw [sl_sz] at hd13
              walk_at "rd"
              refine ⟨D4, _, _, _, _, _, _, _, rfl, s13, ?_⟩
              unfold hearK
              rw [if_pos hany]
              exact hd13
        · rintro σ2 H12 ⟨l, v5, v6, v7, v8, v9, v11, v12, rfl, s12, hl⟩
          walk_at "rd"
          refine u_cw (x := .hear) (Same.tup s12 hr12) ok (s12.seq hx12) (hR12.ex s12) ho hg fun H13 s13 => ?_
          have hl13 := s13 _ _ hl
          have hd13 := s13 _ _ (s12 _ _ hd12)
          walk_at "rd"
          rename_i D5 hD5
          refine lc_it walk_list (fun i H' => Same H13 H' ∧ H' D5 = some (.lst (((hearK r).take i).map fun k => V.int ((behind r es false).cnt (.begin k))))) ⟨Same.new hD5, upd_same⟩ (fun _ _ _ z => SqL.of (z.1 _ _ hl13)) (fun i y Hb Hd hi hs hy => ?_) (fun Hb hs => ?_)
          · obtain ⟨s14, hd14⟩ := hs
            obtain ⟨rfl, hc⟩ := hy
            rw [List.getElem?_map] at hc
            obtain ⟨k, hk, rfl⟩ := Option.map_eq_some_iff.mp hc
            have hd15 := s14 _ _ hd13
            walk_at "rd"
            have hi4 : i < sizeLine := by
              have h3 := (List.getElem?_eq_some_iff.mp hk).1
              have h4 : (hearK r).length ≤ 2 := by
                unfold hearK
                split
                · exact List.length_filter_le ..
                · exact Nat.zero_le _
              exact Nat.lt_of_lt_of_le (show i < 2 by omega) (by decide)
            cases k
            case' s => refine ⟨"sl", Kd.s.str, 0, [], rfl, rfl, by decide +kernel, ?_⟩
            case' l => refine ⟨"sl", Kd.l.str, 1, [], rfl, rfl, by decide +kernel, ?_⟩
            all_goals
              walk_at "rd"
              refine ⟨_, hd14, ?_, Same.mut s14 hD5, ?_⟩
              · rw [List.length_map, List.length_take]
                omega
              · rw [upd_same, List.take_succ, hk, List.map_append]
                rfl
          · obtain ⟨s14, hd14⟩ := hs
            rw [List.length_map, List.take_length] at hd14
            walk_at "rd"
            refine r_sum (ns := (hearK r).map fun k => (behind r es false).cnt (.begin k)) (SqL.of (by rw [hd14, List.map_map]; rfl)) ?_
            rw [hearK_sum r fun k => (behind r es false).cnt (.begin k), ← F.hear]
            walk_at "rd"
            rw [decide_eq_true rfl]
            exact q _ (S12.trans (s12.trans (s13.trans s14)))
theorem u_cr {H : Hp} {Q : VK} {E : XK} {ar a : Addr} {r : Rl} {xs : List V} {es : List Ev} (h1 : SqT K H ar r.vs) (h2 : SqL K H a xs) (hR : Rows H evV xs es) (F : RecF r es) (q : ∀ H', Same H H' → Q (.bl true) H') : spCr K [.ref ar, .ref a] H Q E := ⟨ar, a, r, xs, es, rfl, h1, h2, hR, F, q⟩
end
end
section
section
local macro_rules | `(tactic| walk_at "r1") => `(tactic| first | with_reducible refine r_gsub ?_ | with_reducible refine r_stepL ?_ | with_reducible refine r_listRg ?_)
variable {P : Program} {w : World} {K : PySem.W.Frag} {mg : Str → Option Value} {base : Heap}
/-- beginnings as the program lists them -/
abbrev bgV (x : Run) : List V := [.int x.1, .str x.2.1.str]
theorem bg_dat (x : Run) : (bgV x).all datV = true := by
  obtain ⟨b, wd, n⟩ := x
  show (datV (.int b) && (datV (.str wd.str) && true)) = true
  rw [show datV (.str wd.str) = true by cases wd <;> (rename_i k; cases k <;> decide +kernel)]
  rfl
theorem log_dat (x : Int × Sw) : (logV x).all datV = true := by
  obtain ⟨b, wd⟩ := x
  show (datV (.int b) && (datV (.str wd.str) && true)) = true
  rw [show datV (.str wd.str) = true by cases wd <;> first | decide +kernel | (rename_i k; cases k <;> decide +kernel)]
  rfl
theorem sw_cut (t : Int) (x : Sw) : ∃ u v : Str, Txt.slice x.str none (some 5) = u ∧ Txt.slice x.str (some 6) none = v ∧ ((u = "begin" ∧ ∃ k, beginOf (t, x) = some (t, .one k, 1) ∧ v = (Wd.one k).str) ∨ (u ≠ "begin" ∧ beginOf (t, x) = none)) := by
  refine ⟨_, _, rfl, rfl, ?_⟩
  cases x with
  | «begin» k => exact .inl ⟨by cases k <;> decide +kernel, k, rfl, by cases k <;> decide +kernel⟩
  | press k => exact .inr ⟨by cases k <;> decide +kernel, rfl⟩
  | release k => exact .inr ⟨by cases k <;> decide +kernel, rfl⟩
  | hear => exact .inr ⟨by decide +kernel, rfl⟩
  | remember k => exact .inr ⟨by cases k <;> decide +kernel, rfl⟩
  | idle => exact .inr ⟨by decide +kernel, rfl⟩
theorem sw_len (x : Sw) : x.str.length ≤ sizeLine := by cases x <;> first | decide +kernel | (rename_i k; cases k <;> decide +kernel)
theorem begins_take {l : List (Int × Sw)} {i : Nat} {e : Int × Sw} (h : l[i]? = some e) : begins (l.take (i + 1)) = begins (l.take i) ++ (beginOf e).toList := by
  rw [List.take_succ, h, begins_app]
  cases hb : beginOf e <;> simp [begins, hb]
theorem pick_mem {α : Type} {xs : List α} {lo hi st : Option Int} {x : α} (h : x ∈ pickV xs lo hi st) : x ∈ xs := by
  unfold pickV at h
  obtain ⟨i, _, h2⟩ := List.mem_filterMap.mp h
  exact List.mem_of_getElem? h2
theorem nats_of {n : Nat} : ∀ {ys : List V}, (∀ y ∈ ys, y ∈ rgV 0 n) → ∃ is : List Nat, ys = is.map (fun i => V.int (i : Nat)) ∧ ∀ i ∈ is, i < n
  | [], _ => ⟨[], rfl, fun i hi => by cases hi⟩
  | y :: ys, h => by
    obtain ⟨is, h1, h2⟩ := nats_of (ys := ys) fun z hz => h z (List.mem_cons_of_mem _ hz)
    have h3 := h y (List.mem_cons_self ..)
    unfold rgV at h3
    obtain ⟨i, hi, rfl⟩ := List.mem_map.mp h3
    have h4 : i < n := by
      have := List.mem_range.mp hi
      omega
    refine ⟨i :: is, ?_, fun j hj => ?_⟩
    · rw [List.map_cons, ← h1, Int.zero_add]
    · rcases List.mem_cons.mp hj with rfl | hj
      · exact h4
      · exact h2 j hj
theorem map_some_inj {α : Type} : ∀ {xs ys : List α}, xs.map some = ys.map some → xs = ys
  | [], [], _ => rfl
  | [], _ :: _, h => by cases h
  | _ :: _, [], h => by cases h
  | x :: xs, y :: ys, h => by
    rw [List.map_cons, List.map_cons] at h
    injection h with h1 h2
    rw [Option.some.inj h1, map_some_inj h2]
def mkR (r : Rl) (w : Run × Nat) : Run := (markB r w.1 w.2, .one (markK w.1 w.2), 1)
def spLr (K : PySem.W.Frag) : Sp := fun vs H Q _ => ∃ (ar a : Addr) (r : Rl) (xs : List V) (es : List Ev), vs = [.ref ar, .ref a] ∧ SqT K H ar r.vs ∧ SqL K H a xs ∧ Rows H evV xs es ∧ RecF r es ∧ csumS (behind r es false).cnt ≤ 1000 ∧ ∀ H', Same H H' → Q (.bl true) H'
theorem ok_law_listed_right (T : Txt K mg) : C8.Cal P w K mg base 13 "_law_listed_right" (spLr K) [] := by
  refine calD (D_law_listed_right T) (T_law_listed_right T) sc_law_listed_right (fun _ _ _ _ _ _ us hl => match us, hl with | [_, _], _ => rfl) (fun vs H Q E h => ?_) (fun cdv A outer s H vs Q E hr h => ?_)
  · obtain ⟨_, _, _, _, _, rfl, _⟩ := h
    rfl
  · have hu := hu_of hr
    refine ⟨_, (pss_cons (ps_set (i := 2) sc_law_listed_right.nd rfl (Or.inl rfl) (C8.pe_c (ok_steps T) hr (by decide) rfl (pa_cons (pv 0) (pa_cons (pv 1) pa_nil))))
      (pss_cons (ps_set (i := 3) sc_law_listed_right.nd rfl (Or.inr rfl) (pe_lc (own := [("tick", 6), ("word", 7)]) rfl sc_law_listed_right.nd (pi_list (pv 2)) (blkOk_by (own := [("tick", 6), ("word", 7)]) (N := ["rules", "record", "told", "begins", "some", "marks", "tick", "word", "index", "mark"]) (sc := defScope s_law_listed_right) (by decide +kernel)) (fun _ _ _ _ _ => (pg_tupK (K := K) (n := 2) rfl rfl (pgs_cons (pg_name (i := 6) sc_law_listed_right.nd rfl (Or.inl rfl)) (pgs_cons (pg_name (i := 7) sc_law_listed_right.nd rfl (Or.inl rfl)) pgs_nil)))) (fun _ _ _ _ _ => (pts_one (pt_cmpR op_eq (pe_slice C8.sl_txt (pv 7) po_none (po_some pe_int)) pe_str (nomark _)))) (fun _ _ _ _ _ => (pe_tup (pa_cons (pv 6) (pa_cons (pe_slice C8.sl_txt (pv 7) (po_some pe_int) po_none) pa_nil))))))
      (pss_cons (ps_set (i := 4) sc_law_listed_right.nd rfl (Or.inl rfl) (pe_stepL (pe_listRg rfl (by rfl) (T_list T) (prg_1 (by rfl) (T_range T) (pe_callB cq_len (by rfl) (T_len T) PySem.boot_len (pa_cons (pv 3) pa_nil)))) po_none po_none (pe_op op_add pe_int (pe_op op_fdiv (pe_callB cq_len (by rfl) (T_len T) PySem.boot_len (pa_cons (pv 3) pa_nil)) pe_int))))
      (pss_cons (ps_setLc (i := 5) (own := [("index", 8)]) rfl sc_law_listed_right.nd rfl rfl (sw_true rfl rfl rfl (by decide +kernel)) (pi_list (pv 4)) (blkOk_by (own := [("index", 8)]) (N := ["rules", "record", "told", "begins", "some", "marks", "tick", "word", "index", "mark"]) (sc := defScope s_law_listed_right) (by decide +kernel)) (fun _ _ _ _ _ => (pg_name (i := 8) sc_law_listed_right.nd rfl (Or.inl rfl))) (fun _ _ _ _ _ => pts_nil) (fun _ _ _ _ _ => (C8.pe_c (ok_nth_mark T) hr (by decide) rfl (pa_cons (pv 0) (pa_cons (pv 1) (pa_cons (pv 8) pa_nil))))))
      (pss_cons (ps_if (pt_cmpR (op_neD hr.units) (pe_lc (own := [("mark", 9)]) rfl sc_law_listed_right.nd (pi_list (pv 5)) (blkOk_by (own := [("mark", 9)]) (N := ["rules", "record", "told", "begins", "some", "marks", "tick", "word", "index", "mark"]) (sc := defScope s_law_listed_right) (by decide +kernel)) (fun _ _ _ _ _ => (pg_name (i := 9) sc_law_listed_right.nd rfl (Or.inl rfl))) (fun _ _ _ _ _ => pts_nil) (fun _ _ _ _ _ => (pe_tup (pa_cons (pe_ix (ix_tupK (K := K) rfl) (pv 9) pe_int (fun _ _ => rfl)) (pa_cons (pe_ix (ix_tupK (K := K) rfl) (pv 9) pe_int (fun _ _ => rfl)) pa_nil))))) (pe_lc (own := [("index", 8)]) rfl sc_law_listed_right.nd (pi_list (pv 4)) (blkOk_by (own := [("index", 8)]) (N := ["rules", "record", "told", "begins", "some", "marks", "tick", "word", "index", "mark"]) (sc := defScope s_law_listed_right) (by decide +kernel)) (fun _ _ _ _ _ => (pg_name (i := 8) sc_law_listed_right.nd rfl (Or.inl rfl))) (fun _ _ _ _ _ => pts_nil) (fun _ _ _ _ _ => (pe_ix (ix_listK (K := K) rfl) (pv 3) (pv 8) (fun _ _ => rfl)))) (nomark _))
      (pss_one (ps_ret pe_bl))
      pss_nil)
      (pss_one (ps_ret (pe_or (pe_cmpR (op_eqD hr.units) (pv 2) (pe_lst pa_nil) (nomark _)) (pe_one (pe_cmpR (op_eqD hr.units) (pe_ix ix_list (pv 2) (pe_un un_neg pe_int) (fun _ _ => rfl)) (pe_tup (pa_cons (C8.pe_c (ok_idle_from T) hr (by decide) rfl (pa_cons (pv 0) (pa_cons (pv 1) pa_nil))) (pa_cons pe_str pa_nil))) (nomark _))))))))))), ?_⟩
    walk_at "cx"
    obtain ⟨ar, a, r, xs, es, rfl, h1, h2, hR, F, hs, q⟩ := h
    have ok := F.ok
    have ho := F.ro
    have hg := F.good.1
    have hr := F.good.2
    have L := F.log hs
    walk_at "rd"
    refine u_st h1 ok h2 hR ho hg hs L.b fun p1 ys1 H1 s1 hL1 hR1 => ?_
    have hlen := L.ln
    walk_at "rd"
    rename_i D hD
    refine lc_it walk_list (fun i H' => ∃ zs, Lst H1 H' D zs bgV (begins ((behind r es true).log.take i))) ⟨[], Lst.fresh (Same.refl _) hD⟩ (fun _ _ _ z => by obtain ⟨_, z⟩ := z; exact SqL.of (z.s _ _ hL1)) (fun i y Ha Hb hi hs hy => ?_) (fun Ha hs => ?_)
    · obtain ⟨zs, L2⟩ := hs
      obtain ⟨rfl, hc⟩ := hy
      obtain ⟨ea, e, rfl, he, hea⟩ := hR1.get hc
      have hea2 := L2.s _ _ hea
      obtain ⟨u, v, hu1, hv1, hcase⟩ := sw_cut e.1 e.2
      walk_at "rd"
      refine r_slX (sw_len e.2) ?_
      rw [hu1]
      walk_at "rd"
      have hzl : zs.length < sizeLine := by
        have h3 : (begins ((behind r es true).log.take i)).length ≤ ((behind r es true).log.take i).length := List.length_filterMap_le ..
        rw [List.length_take] at h3
        rw [L2.len]
        exact Nat.lt_of_le_of_lt (show _ ≤ 1000 by omega) (by decide)
      rw [begins_take he]
      rcases hcase with ⟨e1, k, hb, e2⟩ | ⟨hne, hb⟩
      · refine r_ifT (decide_eq_true (by rw [e1])) ?_
        walk_at "rd"
        refine r_slX (sw_len e.2) ?_
        rw [hv1, e2]
        walk_at "rd"
        rename_i u hu
        rw [show beginOf e = some (e.1, .one k, 1) from hb, Option.toList_some]
        exact ⟨zs, (L2.new hu).hL, hzl, zs ++ [.ref u], (L2.new hu).push (d := ((e.1, .one k, 1) : Run)) upd_same⟩
      · refine r_ifF (decide_eq_false fun z => hne (V.str.inj z)) ?_
        rw [show beginOf e = none from hb]
        refine ⟨zs, ?_⟩
        rw [Option.toList_none, List.append_nil]
        exact L2
    · obtain ⟨zs, L2⟩ := hs
      rw [hR1.len, List.take_length, L.bg] at L2
      walk_at "rd"
      have hzl : zs.length ≤ 1000 := by
        have h3 : (begins (behind r es true).log).length ≤ (behind r es true).log.length := List.length_filterMap_le ..
        rw [L2.len, ← L.bg]
        omega
      refine ⟨RgOk.of_le (by omega) (by omega) (by omega) (by omega), fun q1 hq1 => ?_⟩
      have L3 := L2.new (o := .lst (rgV 0 (zs.length : Nat))) hq1
      walk_at "rd"
      refine r_I ⟨by decide, by decide⟩ ?_
      walk_at "rd"
      refine ⟨_, _, 1 + ((zs.length : Nat) : Int) / 9, rfl, rfl, by omega, SqL.of upd_same, fun q2 hq2 => ?_⟩
      have L4 := L3.new (o := .lst (pickV (rgV 0 (zs.length : Nat)) none none (some (1 + ((zs.length : Nat) : Int) / 9)))) hq2
      have eq2 : upd (upd Ha q1 (.lst (rgV 0 (zs.length : Nat)))) q2 (.lst (pickV (rgV 0 (zs.length : Nat)) none none (some (1 + ((zs.length : Nat) : Int) / 9)))) q2 = some (.lst (pickV (rgV 0 (zs.length : Nat)) none none (some (1 + ((zs.length : Nat) : Int) / 9)))) := upd_same
      have hpl := pick_len (rgV 0 (zs.length : Nat)) none none (st := 1 + ((zs.length : Nat) : Int) / 9) (by omega)
      obtain ⟨is, eis, his⟩ := nats_of (n := zs.length) (ys := pickV (rgV 0 (zs.length : Nat)) none none (some (1 + ((zs.length : Nat) : Int) / 9))) fun y hy => pick_mem hy
      generalize upd (upd Ha q1 (.lst (rgV 0 (zs.length : Nat)))) q2 (.lst (pickV (rgV 0 (zs.length : Nat)) none none (some (1 + ((zs.length : Nat) : Int) / 9)))) = H2 at *
      rw [eis] at eq2 hpl
      have hil : is.length ≤ 1000 := by
        rw [List.length_map] at hpl
        have h5 : (rgV 0 (zs.length : Nat)).length = zs.length := by unfold rgV; rw [List.length_map, List.length_range]; omega
        omega
      clear eis
      walk_at "rd"
      have S2 := s1.trans L4.s
      have hL1' := L4.s _ _ hL1
      have hsl := sing_len r (xs := (behind r es false).tidy) fun x hx => ((tidy_bounds ok hg hr).1 x hx).1
      have hzs := L4.len
      have hsg := F.sg.1
      clear L2 L3
      rename_i M hM
      refine lc_it walk_list (fun j H' => ∃ (ms : List V) (ws : List (Run × Nat)), Lst H2 H' M ms (markV r) ws ∧ (ws.map (mkR r)).map some = (is.take j).map fun i => (sing r (behind r es false).runs)[i]?) ⟨[], [], Lst.fresh (Same.refl _) hM, rfl⟩ (fun _ _ _ z => by obtain ⟨_, _, z, _⟩ := z; exact SqL.of (z.s _ _ eq2)) (fun j y Hb Hc hj hs hy => ?_) (fun Hb hs => ?_)
      · obtain ⟨ms, ws, L5, hws⟩ := hs
        obtain ⟨rfl, hc⟩ := hy
        rw [List.getElem?_map] at hc
        obtain ⟨i0, hi0, rfl⟩ := Option.map_eq_some_iff.mp hc
        have hi1 := his i0 (List.mem_of_getElem? hi0)
        have S3 := S2.trans L5.s
        walk_at "rd"
        refine u_nm (Same.tup S3 h1) ok (S3.seq h2) (hR.ex S3) ho hg hr (by rw [← hsl, hsg]; omega) fun w p H5 hw s5 p0 hp => ?_
        refine ⟨ms, (L5.ex s5).hL, ?_, ms ++ [.ref p], ws ++ [w], (L5.ex s5).push hp, ?_⟩
        · have h6 := congrArg List.length hws
          rw [List.length_map, List.length_map, List.length_map, List.length_take] at h6
          rw [L5.len]
          exact Nat.lt_of_le_of_lt (show _ ≤ 1000 by omega) (by decide)
        · rw [hsg] at hw
          rw [List.map_append, List.map_append, hws, List.take_succ, hi0, List.map_append]
          show _ ++ [some (mkR r w)] = _ ++ [(sing r (behind r es false).runs)[i0]?]
          rw [hw]
          rfl
      obtain ⟨ms, ws, L5, hws⟩ := hs
      rw [List.length_map, List.take_length] at hws
      have hwl : ws.length ≤ 1000 := by
        have h6 := congrArg List.length hws
        rw [List.length_map, List.length_map, List.length_map] at h6
        omega
      walk_at "rd"
      rename_i D6 hD6
      refine lc_it walk_list (fun j H' => ∃ ls, Lst Hb H' D6 ls bgV ((ws.take j).map (mkR r))) ⟨[], Lst.fresh (Same.refl _) hD6⟩ (fun _ _ _ z => by obtain ⟨_, z⟩ := z; exact SqL.of (z.s _ _ L5.hL)) (fun j y Hc Hd hj hs hy => ?_) (fun Hc hs => ?_)
      · obtain ⟨ls, L6⟩ := hs
        obtain ⟨rfl, hc⟩ := hy
        obtain ⟨ea, x, rfl, hx, hea⟩ := L5.hR.get hc
        have hea2 := L6.s _ _ hea
        have hj2 : j < sizeLine := by
          have h3 := (List.getElem?_eq_some_iff.mp hx).1
          exact Nat.lt_of_lt_of_le (show j < 1000 by omega) (by decide)
        walk_at "rd"
        rename_i u hu
        have e9 : bgV (mkR r x) = [V.int (markB r x.1 x.2), kv (markK x.1 x.2)] := by
          show [V.int (markB r x.1 x.2), V.str (Wd.one (markK x.1 x.2)).str] = _
          cases markK x.1 x.2 <;> rfl
        exact lc_row L6 hj2 hx (Same.new hu) (by rw [e9]; exact upd_same)
      obtain ⟨ls, L6⟩ := hs
      rw [L5.len, List.take_length] at L6
      have eq3 := L6.s _ _ (L5.s _ _ eq2)
      walk_at "rd"
      rename_i D7 hD7
      have L7 := (L4.ex L5.s).ex L6.s
      refine lc_it walk_list (fun j H' => ∃ (gs : List V) (rs : List Run), Lst Hc H' D7 gs bgV rs ∧ rs.map some = (is.take j).map fun i => (sing r (behind r es false).runs)[i]?) ⟨[], [], Lst.fresh (Same.refl _) hD7, rfl⟩ (fun _ _ _ z => by obtain ⟨_, _, z, _⟩ := z; exact SqL.of (z.s _ _ eq3)) (fun j y Hd He hj hs hy => ?_) (fun Hd hs => ?_)
      · obtain ⟨gs, rs, L8, hrs⟩ := hs
        obtain ⟨rfl, hc⟩ := hy
        rw [List.getElem?_map] at hc
        obtain ⟨i0, hi0, rfl⟩ := Option.map_eq_some_iff.mp hc
        have hi1 := his i0 (List.mem_of_getElem? hi0)
        obtain ⟨d, hd⟩ : ∃ d, (sing r (behind r es false).runs)[i0]? = some d := ⟨_, List.getElem?_eq_getElem (by omega)⟩
        have L9 := L7.ex L8.s
        obtain ⟨ea, hz, hea⟩ := L9.hR.getD hd
        walk_at "rd"
        refine r_ixL (SqL.of L9.hL) (at_lit hz) ?_
        refine ⟨gs, L8.hL, ?_, gs ++ [.ref ea], rs ++ [d], L8.push hea, ?_⟩
        · have h6 := congrArg List.length hrs
          rw [List.length_map, List.length_map, List.length_take] at h6
          rw [L8.len]
          exact Nat.lt_of_le_of_lt (show _ ≤ 1000 by omega) (by decide)
        · rw [List.map_append, hrs, List.take_succ, hi0, List.map_append]
          show _ ++ [some d] = _ ++ [(sing r (behind r es false).runs)[i0]?]
          rw [hd]
      obtain ⟨gs, rs, L8, hrs⟩ := hs
      rw [List.length_map, List.take_length, ← hws] at hrs
      have ers : rs = ws.map (mkR r) := map_some_inj hrs
      subst ers
      have L9 := L6.ex L8.s
      refine r_neRows bg_dat (SqL.of L9.hL) L9.hR (SqL.of L8.hL) L8.hR ?_
      have S9 := (S2.trans L5.s).trans (L6.s.trans L8.s)
      have s9 := (L4.s.trans L5.s).trans (L6.s.trans L8.s)
      have hL9 := s9 _ _ hL1
      have hR9 := hR1.ex s9
      walk_at "rd"
      rename_i e0 he0
      have s10 := Same.new (o := .lst []) he0
      have hR10 := hR9.ex s10
      have hL10 := s10 _ _ hL9
      have S10 := S9.trans s10
      refine r_eqNil (SqL.of hL10) (SqL.of upd_same) (Dat.ofRows log_dat hR10) ?_
      rcases L.la with ⟨e1, e2⟩ | ⟨tl, wz, e1, e2⟩
      · rw [e1] at hR10
        have e3 : ys1 = [] := List.length_eq_zero_iff.mp hR10.len
        rw [e3]
        refine r_bl ?_
        refine r_ifT rfl ?_
        walk_at "rd"
        exact q _ S10
      · have e4 := getLast_cut e2
        rw [← e4] at hR10
        obtain ⟨ys', ea, rfl, _, hea⟩ := hR10.last
        rw [show (ys' ++ [V.ref ea]).isEmpty = false by simp]
        refine r_bl ?_
        refine r_ifF rfl ?_
        walk_at "rd"
        refine r_ixL (SqL.of hL10) at_app ?_
        walk_at "rd"
        refine u_idf (Same.tup S10 h1) ok (S10.seq h2) (hR.ex S10) ho hg hr fun H11 s11 => ?_
        have e5 : idleV r (behind r es false).tidy = .int (runEnd r wz) := by unfold idleV; rw [e1, List.getLast?_concat]
        rw [e5]
        have hea2 := s11 _ _ hea
        walk_at "rd"
        rename_i t0 ht0
        refine r_eqFlatT (xs := logV (runEnd r wz, .idle)) (log_dat (runEnd r wz, .idle)) (SqT.of (Same.new ht0 _ _ hea2)) (SqT.of upd_same) ?_
        walk_at "rd"
        exact q _ ((S10.trans s11).trans (Same.new ht0))
theorem u_lr {H : Hp} {Q : VK} {E : XK} {ar a : Addr} {r : Rl} {xs : List V} {es : List Ev} (h1 : SqT K H ar r.vs) (h2 : SqL K H a xs) (hR : Rows H evV xs es) (F : RecF r es) (hs : csumS (behind r es false).cnt ≤ 1000) (q : ∀ H', Same H H' → Q (.bl true) H') : spLr K [.ref ar, .ref a] H Q E := ⟨ar, a, r, xs, es, rfl, h1, h2, hR, F, hs, q⟩
end
end
section
section
variable {P : Program} {w : World} {K : PySem.W.Frag} {mg : Str → Option Value} {base : Heap}
local macro_rules | `(tactic| walk_at "r1") => `(tactic| with_reducible refine r_rng1 ?_)
/-- a def whose object is known -/
theorem fnF {x : Str} {params : Arguments} {body : List Stmt} {scope : Scope} {dvs : List V} {N ps : List Str} {k : Nat} {sp : Sp} {f : Addr} {fd : FuncData} (F : FunD K x x params body scope dvs [] f fd) (S : FnScope N ps scope)
    (len : ∀ vs H Q E, sp vs H Q E → vs.length = ps.length)
    (hbody : ∀ (cdv : Value) (A : Around) (outer : List Env) (s : Shared) (H : Hp) (vs : List V) (Q : VK) (E : XK), Room k (A.deeper (envOfC x scope s.heap.objs.size f cdv)) → sp vs H Q E →
      ∃ t, PSs (cxOf CX0 P w K mg base N x scope f cdv A outer s H E).nox body t ∧ t { nx := fun _ H' => Q .non H', rt := Q } (start N vs) H) : FnOk P w K mg base CX0 (k + 1) f fd ps sp :=
  F.ok S len fun cdv A outer s H vs Q E hr h => by
    obtain ⟨t, h1, h2⟩ := hbody cdv A outer s H vs Q E hr h
    exact ⟨t, h1.nox, h2⟩
theorem cut_from (xs : List V) (n : Nat) : cutV xs (some (n : Int)) none = xs.drop n := by
  unfold cutV
  rw [HT.sIx_none, HT.sIx_nat]
  rcases Nat.le_total n xs.length with h | h
  · rw [Nat.min_eq_left h, List.take_of_length_le (by rw [List.length_drop]; omega)]
  · rw [Nat.min_eq_right h, Nat.sub_self, List.take_zero, List.drop_eq_nil_of_le h]
theorem rows_take {α : Type} {H : Hp} {f : α → List V} : ∀ {xs : List V} {ds : List α} (n : Nat), Rows H f xs ds → Rows H f (xs.take n) (ds.take n)
  | _, _, 0, _ => by rw [List.take_zero, List.take_zero]; exact .nil
  | _, _, n + 1, .nil => .nil
  | _, _, n + 1, .cons r t => .cons r (rows_take n t)
theorem rows_drop {α : Type} {H : Hp} {f : α → List V} : ∀ {xs : List V} {ds : List α} (n : Nat), Rows H f xs ds → Rows H f (xs.drop n) (ds.drop n)
  | _, _, 0, h => h
  | _, _, n + 1, .nil => .nil
  | _, _, n + 1, .cons r t => rows_drop n t
theorem ev_dat (e : Ev) : (evV e).all datV = true := by
  show (datV (.int e.1) && (datV (kv e.2.1) && (datV (.bl e.2.2) && true))) = true
  rw [show datV (kv e.2.1) = true by cases e.2.1 <;> decide +kernel]
  rfl
/-- an event, later -/
def shE (e : Ev) : Ev := (e.1 + (10 : Int) ^ (27 : Int).toNat, e.2.1, e.2.2)
theorem sh_st : ∀ {es : List Ev} {t u : Int} {d : List Kd} {z : Option Int × List Kd}, recSt (some t) d es = some z → u ≤ t + 10 ^ 27 → ∃ l, recSt (some u) d (es.map shE) = some (l, z.2)
  | [], t, u, d, z, h, _ => by
    cases h
    exact ⟨some u, rfl⟩
  | (a, k, b) :: es, t, u, d, z, h, hu => by
    obtain ⟨h1, h2, h3⟩ := recSt_one h
    obtain ⟨l, h4⟩ := sh_st (u := a + (10 : Int) ^ (27 : Int).toNat) h3 (Int.le_refl _)
    refine ⟨l, ?_⟩
    have e27 : (10 : Int) ^ (27 : Int).toNat = 10 ^ 27 := rfl
    have h5 := h1 t rfl
    rw [List.map_cons, recSt_cons, if_pos]
    · exact h4
    · unfold okEv
      rw [Bool.and_eq_true]
      refine ⟨decide_eq_true (show u ≤ a + (10 : Int) ^ (27 : Int).toNat by rw [e27]; omega), ?_⟩
      show (b != decide (k ∈ d)) = true
      rw [h2]
      cases decide (k ∈ d) <;> rfl
theorem sh_ok {es : List Ev} (n : Nat) (h : RecOk es) : RecOk (es.take n ++ (es.drop n).map shE) := by
  refine ⟨?_, ?_⟩
  · obtain ⟨l, h1⟩ := recGo_st.mp h.1
    rw [← List.take_append_drop n es] at h1
    obtain ⟨l2, dn, h2, h3⟩ := recSt_pre h1
    refine recGo_st.mpr ?_
    rw [recSt_app, h2]
    show ∃ l, recSt l2 dn ((es.drop n).map shE) = some (l, [])
    cases hd : es.drop n with
    | nil =>
      rw [hd] at h3
      cases h3
      exact ⟨l, rfl⟩
    | cons e tl =>
      obtain ⟨a, k, b⟩ := e
      rw [hd] at h3
      obtain ⟨h4, h5, h6⟩ := recSt_one h3
      obtain ⟨l3, h7⟩ := sh_st (u := a + (10 : Int) ^ (27 : Int).toNat) h6 (Int.le_refl _)
      refine ⟨l3, ?_⟩
      have e27 : (10 : Int) ^ (27 : Int).toNat = 10 ^ 27 := rfl
      rw [List.map_cons, recSt_cons, if_pos]
      · exact h7
      · unfold okEv
        rw [Bool.and_eq_true]
        refine ⟨?_, ?_⟩
        · cases l2 with
          | none => rfl
          | some t0 =>
            have := h4 t0 rfl
            exact decide_eq_true (show t0 ≤ a + (10 : Int) ^ (27 : Int).toNat by rw [e27]; omega)
        · show (b != decide (k ∈ dn)) = true
          rw [h5]
          cases decide (k ∈ dn) <;> rfl
  · have h2 := h.2
    rw [List.length_append, List.length_map, List.length_take, List.length_drop]
    omega
theorem sh_tk {es : List Ev} (n : Nat) (h : ∀ e ∈ es, e.1.natAbs ≤ 10 ^ 35) : ∀ e ∈ es.take n ++ (es.drop n).map shE, Tk e.1 := fun e he => by
  have e1 : (10 : Int) ^ 36 < 2 ^ 303 := by decide
  have e27 : (10 : Int) ^ (27 : Int).toNat = 10 ^ 27 := rfl
  have hb : e.1.natAbs ≤ 10 ^ 36 := by
    rcases List.mem_append.mp he with he | he
    · have := h e (List.mem_of_mem_take he)
      omega
    · obtain ⟨x, hx, rfl⟩ := List.mem_map.mp he
      have := h x (List.mem_of_mem_drop hx)
      show (x.1 + (10 : Int) ^ (27 : Int).toNat).natAbs ≤ _
      rw [e27]
      omega
  exact ⟨by omega, by omega⟩
theorem fn_law {f : Addr} {fd : FuncData} (T : Txt K mg) (F : FunD K "law" "law" (defArgs s_law) (defBody s_law) (defScope s_law) [] [] f fd) : FnOk P w K mg base CX0 15 f fd ["script"] (spLaw K) := by
  refine fnF F sc_law (fun vs H Q E h => ?_) (fun cdv A outer s H vs Q E hr h => ?_)
  · obtain ⟨_, _, rfl, _⟩ := h
    rfl
  · have hu := hu_of hr
    refine ⟨_, (pss_cons (ps_set (i := 1) sc_law.nd rfl (Or.inl rfl) (C8.pe_c (ok_law_spring T) hr (by decide) rfl (pa_cons (pv 0) pa_nil)))
      (pss_cons (ps_for PassesOwn.never rfl (pi_range1 (by rfl) (T_range T) (pa_cons (pe_op op_add pe_int (pe_callB (cq_min rfl) (by rfl) (T_min T) (by decide +kernel) (pa_cons pe_int (pa_cons (pe_callB cq_len (by rfl) (T_len T) PySem.boot_len (pa_cons (pv 0) pa_nil)) pa_nil)))) pa_nil)) (pg_name (i := 2) sc_law.nd rfl (Or.inl rfl))
      (pss_cons (ps_set (i := 3) sc_law.nd rfl (Or.inl rfl) (C8.pe_c (ok_law_rules T) hr (by decide) rfl (pa_cons (pv 1) pa_nil)))
      (pss_cons (ps_set (i := 4) sc_law.nd rfl (Or.inl rfl) (C8.pe_c (ok_law_record T) hr (by decide) rfl (pa_cons (pv 1) (pa_cons (pv 3) (pa_cons pe_int pa_nil)))))
      (pss_cons (ps_if (pt_not (pt_val (C8.pe_c (ok_law_counts_right T) hr (by decide) rfl (pa_cons (pv 3) (pa_cons (pv 4) pa_nil)))))
      (pss_one (ps_ret pe_bl))
      pss_nil)
      (C8.pss_cut (ps_if (PW.pt (pw_and (pt_cmpR op_le (C8.pe_c (ok_count_steps T) hr (by decide) rfl (pa_cons (pv 3) (pa_cons (pv 4) pa_nil))) pe_int (nomark _)) (pw_and1 (pt_not (pt_val (C8.pe_c (ok_law_listed_right T) hr (by decide) rfl (pa_cons (pv 3) (pa_cons (pv 4) pa_nil))))))))
      (pss_one (ps_ret pe_bl))
      pss_nil)
      (pss_one (ps_if (PW.pt (pw_and (pt_cmpR (op_neD hr.units) (pv 4) (pe_lst pa_nil) (nomark _)) (pw_and1 (pt_cmpR op_lt (pe_callB (cr_maxT rfl) (by rfl) (T_max T) (by decide +kernel) (pa_cons (pe_slice sl_tup (pv 3) po_none (po_some pe_int)) pa_nil)) (pe_op op_pow pe_int pe_int) (nomark _)))))
      (pss_cons (ps_set (i := 5) sc_law.nd rfl (Or.inl rfl) (C8.pe_c (ok_law_draw T) hr (by decide) rfl (pa_cons (pv 1) (pa_cons (pe_callB cq_len (by rfl) (T_len T) PySem.boot_len (pa_cons (pv 4) pa_nil)) pa_nil))))
      (pss_cons (ps_set (i := 6) sc_law.nd rfl (Or.inl rfl) (pe_op op_cat (pe_slice sl_list (pv 4) po_none (po_some (pv 5))) (pe_lc (own := [("tick", 7), ("lever", 8), ("is_press", 9)]) rfl sc_law.nd (pi_list (pe_slice sl_list (pv 4) (po_some (pv 5)) po_none)) (blkOk_by (own := [("tick", 7), ("lever", 8), ("is_press", 9)]) (N := ["script", "spring", "turn", "rules", "record", "spot", "long", "tick", "lever", "is_press"]) (sc := defScope s_law) (by decide +kernel)) (fun _ _ _ _ _ => (pg_tupK (K := K) (n := 3) rfl rfl (pgs_cons (pg_name (i := 7) sc_law.nd rfl (Or.inl rfl)) (pgs_cons (pg_name (i := 8) sc_law.nd rfl (Or.inl rfl)) (pgs_cons (pg_name (i := 9) sc_law.nd rfl (Or.inl rfl)) pgs_nil))))) (fun _ _ _ _ _ => pts_nil) (fun _ _ _ _ _ => (pe_tup (pa_cons (pe_op op_add (pv 7) (pe_op op_pow pe_int pe_int)) (pa_cons (pv 8) (pa_cons (pv 9) pa_nil))))))))
      (pss_one (ps_if (pt_not (pt_val (C8.pe_c (ok_law_counts_right T) hr (by decide) rfl (pa_cons (pv 3) (pa_cons (pv 6) pa_nil)))))
      (pss_one (ps_ret pe_bl))
      pss_nil))))
      pss_nil)))))))
      (pss_one (ps_ret pe_bl)))), ?_⟩
    walk_at "cx"
    obtain ⟨s, is, rfl, hs, q⟩ := h
    walk_at "rd"
    refine u_spr hs fun f H1 s1 f0 F1 => ?_
    have hs1 := s1.seq hs
    walk_at "rd"
    have hj : ∀ n : Nat, 1 ≤ 1 + (if (n : Int) < 2 then (n : Int) else 2) ∧ 1 + (if (n : Int) < 2 then (n : Int) else 2) ≤ 3 := fun n => by split <;> omega
    obtain ⟨hj1, hj2⟩ := hj (is.map V.int).length
    refine ⟨_, rfl, by omega, by omega, ?_⟩
    generalize (1 + (if (((is.map V.int).length : Nat) : Int) < 2 then (((is.map V.int).length : Nat) : Int) else 2)) = jj at *
    refine for_it walk_range (fun i σ Ha => ∃ (v2 v3 v4 v5 v6 v7 v8 v9 : Option V), σ = [some (.ref s), some (.ref f), v2, v3, v4, v5, v6, v7, v8, v9] ∧ FtAt Ha f (1000 * i)) ⟨_, _, _, _, _, _, _, _, rfl, F1⟩ (fun _ _ _ _ _ => trivial) ?_ ?_
    · rintro i y σ Ha Hb hi ⟨v2, v3, v4, v5, v6, v7, v8, v9, rfl, F2⟩ hy
      obtain ⟨rfl, rfl⟩ := hy
      have hi2 : i < 3 := by omega
      walk_at "rd"
      refine u_rus F2 (by omega) fun ar r H3 o3 ar0 har rt pb F3 => ?_
      walk_at "rd"
      refine u_rcd F3 har rt (by decide) (by decide) (by omega) fun a xs es H4 o4 a0 ha hR hok hl hb hg F4 => ?_
      have har4 := o4 _ _ (F3.ne_t har) har
      have tk : ∀ e ∈ es, Tk e.1 := fun e he => by
        have e1 : (10 : Int) ^ 36 < 2 ^ 303 := by decide
        have := hb e he
        exact ⟨by omega, by omega⟩
      have F : RecF r es := ⟨rt.ok, hok, tk⟩
      walk_at "rd"
      refine u_cr (SqT.of har4) (SqL.of ha) hR F fun H5 s5 => ?_
      have ha5 := s5 _ _ ha
      have har5 := s5 _ _ har4
      have hR5 := hR.ex s5
      have F5 := F4.ex s5
      walk_at "rd"
      refine r_cutM (fun σ' H' => ∃ (v2 v5 v6 v7 v8 v9 : Option V), σ' = [some (.ref s), some (.ref f), v2, some (.ref ar), some (.ref a), v5, v6, v7, v8, v9] ∧ Same H5 H') ?_ ?_
      · dsimp only
        walk_at "rd"
        refine u_cs (SqT.of har5) rt.ok (SqL.of ha5) hR5 hok F.good.1 fun H6 s6 => ?_
        walk_at "rd"
        refine r_ite (fun hs6 => ?_) (fun _ => ?_)
        · have ha6 := s6 _ _ ha5
          have har6 := s6 _ _ har5
          walk_at "rd"
          refine u_lr (SqT.of har6) (SqL.of ha6) (hR5.ex s6) F (of_decide_eq_true hs6) fun H7 s7 => ?_
          walk_at "rd"
          exact ⟨_, _, _, _, _, _, rfl, s6.trans s7⟩
        · walk_at "rd"
          exact ⟨_, _, _, _, _, _, rfl, s6⟩
      rintro σ2 H6 ⟨v2, v5, v6, v7, v8, v9, rfl, s6⟩
      have ha6 := s6 _ _ ha5
      have har6 := s6 _ _ har5
      have hR6 := hR5.ex s6
      have F6 := F5.ex s6
      walk_at "rd"
      rename_i e0 he0
      have s7 := Same.new (o := .lst []) he0
      have ha7 := s7 _ _ ha6
      refine r_neNil (SqL.of ha7) (SqL.of upd_same) (Dat.ofRows ev_dat (hR6.ex s7)) ?_
      have har7 := s7 _ _ har6
      have hR7 := hR6.ex s7
      have F7 := F6.ex s7
      generalize upd H6 e0 (.lst []) = H7 at *
      refine r_bl ?_
      by_cases hx : xs = []
      · rw [hx]
        refine r_ifF rfl ?_
        walk_at "rd"
        exact ⟨_, _, _, _, _, _, _, _, rfl, F7.mono (by omega)⟩
      have hxl : 0 < xs.length := List.length_pos_iff.mpr hx
      have hxle := hR.len
      refine r_ifT (by cases xs <;> first | exact absurd rfl hx | rfl) ?_
      walk_at "rd"
      rename_i t ht
      have hc : cutV r.vs none (some 4) = [V.int r.s, V.int r.l, V.int r.p, V.int r.d] := rfl
      rw [hc]
      have s8 := Same.new (o := .tup [V.int r.s, V.int r.l, V.int r.p, V.int r.d]) ht
      refine r_maxT (ns := [r.s, r.l, r.p, r.d]) (SqT.of upd_same) (by show 0 < 4; decide) fun m _ _ => ?_
      have ha8 := s8 _ _ ha7
      have har8 := s8 _ _ har7
      have hR8 := hR7.ex s8
      have F8 := F7.ex s8
      generalize upd H7 t (.tup [V.int r.s, V.int r.l, V.int r.p, V.int r.d]) = H8 at *
      walk_at "rd"
      refine r_I ⟨by decide, by decide, by decide⟩ ?_
      walk_at "rd"
      refine r_ite (fun _ => ?_) (fun _ => ?_)
      · walk_at "rd"
        refine u_drw F8 (by omega) (by omega) (by omega) fun d H9 a9 b9 o9 F9 => ?_
        have ha9 := o9 _ _ (F3.ne a0) ha8
        have har9 := o9 _ _ (F8.ne_t har8) har8
        have hR9 := hR8.tup fun b ys e => o9 b _ (F8.ne_t e) e
        obtain ⟨n, rfl⟩ := Int.eq_ofNat_of_zero_le a9
        walk_at "rd"
        rename_i q1 hq1 q2 hq2 D hD
        rw [cut_to] at hq2 hD ⊢
        rw [cut_from] at hD ⊢
        have t1 := Same.new (o := .lst (xs.take n)) hq1
        have t2 := Same.new (o := .lst (xs.drop n)) hq2
        have e1 := t2 q1 (.lst (xs.take n)) upd_same
        have e2 : upd (upd H9 q1 (.lst (xs.take n))) q2 (.lst (xs.drop n)) q2 = some (.lst (xs.drop n)) := upd_same
        have t3 := t1.trans t2
        generalize upd (upd H9 q1 (.lst (xs.take n))) q2 (.lst (xs.drop n)) = H10 at *
        have hR10 := hR9.ex t3
        have har10 := t3 _ _ har9
        have F10 := F9.ex t3
        refine lc_it walk_list (fun j H' => ∃ zs, Lst H10 H' D zs evV (((es.drop n).take j).map shE)) ⟨[], Lst.fresh (Same.refl _) hD⟩ (fun _ _ _ z => by obtain ⟨_, z⟩ := z; exact SqL.of (z.s _ _ e2)) (fun j y Hb Hc hj hs hy => ?_) (fun Hb hs => ?_)
        · obtain ⟨zs, L1⟩ := hs
          obtain ⟨rfl, hc⟩ := hy
          obtain ⟨ea, e, rfl, he, hea⟩ := (rows_drop n hR10).get hc
          have hea2 := L1.s _ _ hea
          have hj2 : j < sizeLine := by
            rw [List.length_drop] at hj
            exact Nat.lt_of_lt_of_le (show j < 200 by omega) (by decide)
          walk_at "rd"
          refine r_I ⟨by decide, by decide, by decide⟩ ?_
          walk_at "rd"
          rename_i u hu
          exact lc_row L1 hj2 he (Same.new hu) upd_same
        · obtain ⟨zs, L1⟩ := hs
          rw [(rows_drop n hR10).len, List.take_length] at L1
          walk_at "rd"
          refine r_cat (L1.s _ _ e1) L1.hL ?_ fun q3 hq3 => ?_
          · rw [L1.len, List.length_map, List.length_take, List.length_drop]
            omega
          have t4 := Same.new (o := .lst (xs.take n ++ zs)) hq3
          walk_at "rd"
          refine u_cr (SqT.of (t4 _ _ (L1.s _ _ har10))) (SqL.of upd_same) ((((rows_take n hR10).ex L1.s).app L1.hR).ex t4) ⟨rt.ok, sh_ok n hok, sh_tk n hb⟩ fun H12 s12 => ?_
          walk_at "rd"
          exact ⟨_, _, _, _, _, _, _, _, rfl, (((F10.ex L1.s).ex t4).ex s12).mono (by omega)⟩
      · walk_at "rd"
        exact ⟨_, _, _, _, _, _, _, _, rfl, F8.mono (by omega)⟩
    · rintro σ Ha ⟨v2, v3, v4, v5, v6, v7, v8, v9, rfl, F2⟩
      walk_at "rd"
      exact q _
end
end
end Sq
end
section
set_option Elab.async false
set_option linter.all false
set_option maxRecDepth 100000
set_option maxHeartbeats 4000000
namespace Sq
open PySem PySem.Spec PyProof.Rows L2
theorem facts {P : Program} : WalkGives P := fun {w K h mg f} X G hfa c => by
  have T : Txt K mg := ⟨h, X, G, c⟩
  obtain ⟨fd, F⟩ := D_law T
  have e := hfa.symm.trans (T_law T)
  cases e
  have b := FunD.bindsA (ps := ["script"]) F fun _ _ _ _ _ _ us hl => match us, hl with | [_], _ => rfl
  exact ⟨fd, fun s v => b s [v] rfl, fun base _ _ => fn_law T F⟩
end Sq
theorem PySem.Challenge.cw_squeezedkeyer_k86_whole_steps_and_runs_holds : PySem.Challenge.rw_squeezedkeyer_k86_whole_steps_and_runs.Holds := by
  exact Sq.holds_of Sq.facts
end

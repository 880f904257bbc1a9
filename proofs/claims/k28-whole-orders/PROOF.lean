import PyProof.Rows.All
import Wide.All
import OpenK.AllK
import Wide.FinOn
import HandS.ForMost
import HandS.Flow
import HandS.Defaults
import HandS.MakeKwOnly
import HandS.Star
import HandS.Property
import HandS.ClsMeth
import HandS.IsInst
import HandS.Zip
import HandS.Deep
import HandS.TupAny
import HandS.HeadHook2
import PySem.Challenge.RW_latewords_k28_whole_orders_are_enough
import KE.KDictKeyed
import KE.KDictDisplayH
import HandS.Walk
import HandS.SortKw
import HandS.Lambda
import KE.DataMinKey
import HandS.Codes
import HandS.Strs
import PyProof.P3Eq
import HandS.HeadHook4
import KE.KStateDown
import Lean
import HandS.Head0
import HandS.Head1
import HandS.Head2
import HandS.HeadWalk
set_option Elab.async false
set_option linter.all false
set_option maxRecDepth 100000
set_option maxHeartbeats 0
/-! Latewords, the plain part 1: sides, ways, the listener's run, turn states. No program here. -/
namespace LW

inductive Hold where | off | part | all
  deriving DecidableEq, Repr
inductive Mode where | plain | push | more
  deriving DecidableEq, Repr

structure Pol where
  hold : Hold
  every : Int
  quick : Int

structure Side where
  waiting : Int
  corked : Bool
  out : Int
  covered : Int
  heard : Int
  fulls : Int
  arrived : Int
  mark : Int

/-- does a policy permit a partial segment, if so much is acknowledged, sent, and the last partial one ends there -/
def permitsAt (h : Hold) (covered out mark : Int) : Bool :=
  match h with
  | .part => decide (mark ≤ covered)
  | .off => true
  | .all => decide (covered = out)
def Side.permits (s : Side) (h : Hold) : Bool := permitsAt h s.covered s.out s.mark

/-- a segment of c bytes (0: a bare acknowledgment) is sent -/
def Side.sent (size : Int) (s : Side) (c : Int) : Side :=
  { s with waiting := s.waiting - c, out := s.out + c, fulls := 0,
           mark := if 0 < c ∧ c < size then s.out + c else s.mark,
           corked := if 0 < c ∧ c < size then false else s.corked }

abbrev Way := List (Int × Int)

/-! ### the turn states -/
structure Parts where
  rest : Int
  kept : Bool
  blocked : Bool
  stuck : Bool
  pending : Int
  quick : Int
  deriving DecidableEq, Repr

structure Rule where
  size : Int
  hold : Hold
  every : Int

/-- with_full -/
def wf (r : Rule) (p : Parts) (many : Int) : Parts × Int :=
  if many = 0 then (p, 0) else
  let soon := min p.quick many
  let late := many - soon
  let pending := if soon > 0 then 0 else p.pending
  let told := if r.every > 0 then soon + (pending + late) / r.every else soon
  let pending' := if r.every > 0 then (pending + late) % r.every else pending
  let blocked := if r.hold = .all then true else p.blocked
  let stuck := if r.hold = .all then decide (late > 0 ∧ (r.every = 0 ∨ pending' > 0)) else p.stuck
  let stuck := if r.hold = .part then stuck && decide (told = 0) else stuck
  (⟨p.rest, p.kept, blocked, stuck, pending', p.quick - soon⟩, told)

/-- with_partial -/
def wp (r : Rule) (p : Parts) : Parts × Int :=
  let blocked := decide (r.hold ≠ .off)
  if p.quick > 0 then (⟨0, false, blocked, false, 0, p.quick - 1⟩, 1)
  else (⟨0, false, blocked, blocked, p.pending, 0⟩, 0)

/-- after_write -/
def aw3 (r : Rule) (p : Parts) (len : Int) (mode : Mode) : Parts × Int × Int :=
  let many := (p.rest + len) / r.size
  let rest := (p.rest + len) % r.size
  let f := wf r { p with rest := rest, kept := false } many
  if rest > 0 ∧ mode = .more then ({ f.1 with rest := rest, kept := true }, many, f.2)
  else if rest > 0 ∧ (mode = .push ∨ f.1.blocked = false) then ((wp r f.1).1, many + 1, f.2 + (wp r f.1).2)
  else (f.1, many, f.2)
def aw (r : Rule) (p : Parts) (len : Int) (mode : Mode) : Parts := (aw3 r p len mode).1

/-- after_clearing -/
def ac3 (r : Rule) (p : Parts) : Parts × Int × Int :=
  if p.blocked = false ∨ p.stuck = true then (p, 0, 0) else
  let q : Parts := { p with blocked := false, stuck := false }
  if q.rest = 0 ∨ q.kept = true then (q, 0, 0)
  else ((wp r q).1, 1, (wp r q).2)
def ac (r : Rule) (p : Parts) : Parts := (ac3 r p).1

/-- after_turn: its first two values -/
def at4 (r : Rule) (p : Parts) : Int × Int :=
  let p2 := ac r (ac r p)
  if p2.rest = 0 then (0, p2.quick) else (1, (wp r p2).1.quick)

theorem ac_3 (r : Rule) (p : Parts) : ac r (ac r (ac r p)) = ac r (ac r p) := by
  rcases p with ⟨rest, kept, blocked, stuck, pending, quick⟩
  unfold ac ac3 wp
  cases blocked <;> cases stuck <;> cases kept <;> by_cases h : rest = 0 <;> by_cases h2 : quick > 0 <;> by_cases h3 : r.hold = .off <;> simp [h, h2, h3]
theorem at4_ac (r : Rule) (p : Parts) : at4 r (ac r p) = at4 r p := by
  unfold at4
  rw [ac_3]
theorem ac_id {r : Rule} {p : Parts} (h : ¬ (p.blocked = true ∧ p.stuck = false)) : ac r p = p := by
  unfold ac ac3
  rw [if_pos]
  cases hb : p.blocked <;> cases hs : p.stuck <;> simp_all
theorem ac_rest0 {r : Rule} {p : Parts} (h : p.rest = 0) : (ac r p).rest = 0 ∧ (ac r p).quick = p.quick := by
  unfold ac ac3
  split <;> simp [h]
theorem at4_rest0 {r : Rule} {p : Parts} (h : p.rest = 0) : at4 r p = (0, p.quick) := by
  have a := ac_rest0 (r := r) h
  have b := ac_rest0 (r := r) a.1
  unfold at4
  simp [b.1, b.2, a.2]
theorem wp_rest {r : Rule} {p : Parts} : (wp r p).1.rest = 0 := by
  unfold wp
  simp only
  split <;> rfl
theorem wp_quick {r : Rule} {p : Parts} : (wp r p).1.quick = if p.quick > 0 then p.quick - 1 else 0 := by
  unfold wp
  simp only
  split <;> rfl

/-! ### many full segments are many times one -/
theorem emod_succ {x e : Int} (he : 0 < e) : (x + 1) % e = if x % e + 1 = e then 0 else x % e + 1 := by
  have h0 := Int.emod_nonneg x (Int.ne_of_gt he)
  have h1 := Int.emod_lt_of_pos x he
  have h2 : (x + 1) % e = (x % e + 1) % e := by rw [Int.emod_add_emod]
  rw [h2]
  split
  · rename_i h
    rw [h, Int.emod_self]
  · rename_i h
    exact Int.emod_eq_of_lt (by omega) (by omega)
theorem ediv_zero_iff {x e : Int} (he : 0 < e) (hx : 0 ≤ x) : x / e = 0 ↔ x < e := by
  constructor
  · intro h
    have := Int.emod_add_mul_ediv x e
    have h1 := Int.emod_lt_of_pos x he
    rw [h] at this
    omega
  · intro h
    exact Int.ediv_eq_zero_of_lt hx h

theorem wf_zero (r : Rule) (p : Parts) : wf r p 0 = (p, 0) := by unfold wf; simp

/-- one more full segment -/
theorem wf_succ (r : Rule) (p : Parts) (n : Nat) (he : 0 ≤ r.every) (hq : 0 ≤ p.quick) (hp : 0 ≤ p.pending) (hpe : 0 < r.every → p.pending < r.every) (hp0 : r.every = 0 → p.pending = 0) :
    (wf r p (n + 1 : Nat)).1 = (wf r (wf r p n).1 1).1 := by
  by_cases hn : n = 0
  · subst hn
    rw [show ((0 : Nat) : Int) = 0 from rfl, wf_zero]
    rfl
  · rcases p with ⟨rest, kept, blocked, stuck, pending, quick⟩
    simp only at hq hp hpe hp0
    have n1 : ¬ ((n : Int) = 0) := by omega
    have n2 : ¬ (((n + 1 : Nat) : Int) = 0) := by omega
    have n3 : ¬ ((1 : Int) = 0) := by decide
    unfold wf
    simp only [if_neg n1, if_neg n2, if_neg n3]
    by_cases hE : r.every = 0
    · have hE' : ¬ (r.every > 0) := by omega
      simp only [if_neg hE']
      have hp1 := hp0 hE
      subst hp1
      have s1 : (decide (((n + 1 : Nat) : Int) - min quick ((n + 1 : Nat) : Int) > 0)) = decide (1 - min (quick - min quick (n : Int)) 1 > 0) := by
        apply decide_eq_decide.mpr
        omega
      have s2 : quick - min quick ((n + 1 : Nat) : Int) = quick - min quick (n : Int) - min (quick - min quick (n : Int)) 1 := by omega
      have s3 : decide (min quick ((n + 1 : Nat) : Int) = 0) = (decide (min quick (n : Int) = 0) && decide (min (quick - min quick (n : Int)) 1 = 0)) := by
        rw [← Bool.decide_and]
        apply decide_eq_decide.mpr
        omega
      rw [s2]
      cases hh : r.hold
      · simp
      · simp only [reduceCtorEq, if_false, if_true, ite_self, s3]
        rw [← Bool.and_assoc]
      · simp only [reduceCtorEq, if_false, if_true, ite_self, hE, true_or, and_true, s1]
    · have hE' : r.every > 0 := by omega
      have hE0 : ¬ (r.every = 0) := hE
      simp only [if_pos hE']
      have hpl := hpe hE'
      -- cases by the budget
      by_cases hq1 : (n : Int) + 1 ≤ quick
      · have a1 : min quick ((n + 1 : Nat) : Int) = (n : Int) + 1 := by omega
        have a2 : min quick (n : Int) = n := by omega
        have a3 : min (quick - (n : Int)) 1 = 1 := by omega
        have a4 : ((n : Int) + 1 > 0) := by omega
        have a5 : ((n : Int) > 0) := by omega
        have a6 : ((n + 1 : Nat) : Int) - ((n : Int) + 1) = 0 := by omega
        simp only [a1, a2, a3, if_pos a4, if_pos a5, a6]
        cases hh : r.hold <;> simp [hE0] <;> omega
      · by_cases hq2 : (n : Int) ≤ quick
        · have e : quick = n := by omega
          subst e
          have a1 : min (n : Int) ((n + 1 : Nat) : Int) = n := by omega
          have a2 : min (n : Int) (n : Int) = n := by omega
          have a3 : min (0 : Int) 1 = 0 := by omega
          have a5 : ((n : Int) > 0) := by omega
          have a6 : ((n + 1 : Nat) : Int) - (n : Int) = 1 := by omega
          have a7 : ¬ ((0 : Int) > 0) := by decide
          simp only [a1, a2, if_pos a5, a6, Int.sub_self, a3, if_neg a7, Int.zero_add, Int.sub_zero, Int.zero_emod, Int.zero_ediv, Int.add_zero]
          have t1 : ¬ ((n : Int) + 1 / r.every = 0) := by
            have := Int.ediv_nonneg (a := 1) (b := r.every) (by decide) he
            omega
          have t2 : ¬ ((n : Int) = 0) := n1
          cases hh : r.hold <;> simp [t1, hE0]
          intro _ h0
          omega
        · have a1 : min quick ((n + 1 : Nat) : Int) = quick := by omega
          have a2 : min quick (n : Int) = quick := by omega
          have a3 : min (quick - quick) 1 = 0 := by omega
          have a7 : ¬ ((0 : Int) > 0) := by decide
          simp only [a1, a2, a3, if_neg a7]
          -- the pending ones ahead
          generalize hx : (if quick > 0 then (0 : Int) else pending) = x
          have x0 : 0 ≤ x := by rw [← hx]; split <;> omega
          have xe : x < r.every := by rw [← hx]; split <;> omega
          have e1 : x + (((n + 1 : Nat) : Int) - quick) = (x + ((n : Int) - quick)) + 1 := by omega
          generalize hy : x + ((n : Int) - quick) = y at e1
          have y0 : 0 ≤ y := by omega
          have y1 : 0 < y := by omega
          rw [e1, Int.sub_zero, Int.emod_add_emod]
          have m0 := Int.emod_nonneg y (Int.ne_of_gt hE')
          have m1 := Int.emod_lt_of_pos y hE'
          have d0 := Int.ediv_nonneg y0 he
          have d1 := Int.ediv_nonneg (a := y + 1) (b := r.every) (by omega) he
          have d2 := Int.ediv_nonneg (a := y % r.every + 1) (b := r.every) (by omega) he
          have t : (quick + (y + 1) / r.every = 0) ↔ (quick + y / r.every = 0 ∧ 0 + (y % r.every + 1) / r.every = 0) := by
            constructor
            · intro h
              have h1 : (y + 1) / r.every = 0 := by omega
              have h2 := (ediv_zero_iff hE' (by omega)).mp h1
              have h3 : y / r.every = 0 := (ediv_zero_iff hE' y0).mpr (by omega)
              have h4 : y % r.every = y := Int.emod_eq_of_lt y0 (by omega)
              rw [h4, h1, h3]
              omega
            · rintro ⟨h, h'⟩
              have h3 : y / r.every = 0 := by omega
              have h4 := (ediv_zero_iff hE' y0).mp h3
              have h5 : y % r.every = y := Int.emod_eq_of_lt y0 h4
              rw [h5] at h'
              omega
          have c1 : (((n + 1 : Nat) : Int) - quick > 0) := by omega
          have c2 : ((1 : Int) > 0) := by decide
          cases hh : r.hold
          · simp
          · simp [t, Bool.and_assoc]
          · have : ((n : Int) - quick > 0) := by omega
            simp [hE0]
            omega

end LW

/-! Latewords, the plain part 2: one turn's two sides and ways; what each event does to its turn state. -/
namespace LW

/-- the listener's values while things arrive; acked: the most that is acknowledged when all has arrived -/
structure Lst where
  fulls : Int
  arrived : Int
  heard : Int
  acked : Int

/-- one for a full segment -/
def isF (size c : Int) : Int := if c = size then 1 else 0
theorem isF_pos {size c : Int} (h : c = size) : isF size c = 1 := if_pos h
theorem isF_neg {size c : Int} (h : ¬ c = size) : isF size c = 0 := if_neg h
theorem isF_nn (size c : Int) : 0 ≤ isF size c := by
  unfold isF
  split <;> decide
def lstep (size every quick : Int) (l : Lst) (c : Int) : Lst :=
  if c = 0 then l
  else if l.arrived + 1 ≤ quick ∨ (c = size ∧ l.fulls + isF size c = every) then ⟨0, l.arrived + 1, l.heard + c, max l.acked (l.heard + c)⟩
  else ⟨l.fulls + isF size c, l.arrived + 1, l.heard + c, l.acked⟩
def lrun (size every quick : Int) (l : Lst) (A : Way) : Lst := A.foldl (fun l x => lstep size every quick l x.1) l
def ackd (c : Int) (B : Way) : Int := B.foldl (fun m x => max m x.2) c
def cnt (A : Way) : Int := (A.map (·.1)).sum

/-- the turn state of a speaker's side S, a listener's side T, what is on the way from the speaker (A) and from the listener (B) -/
def absP (size : Int) (hold : Hold) (every quick : Int) (S T : Side) (A B : Way) : Parts :=
  let L := lrun size every quick ⟨T.fulls, T.arrived, T.heard, ackd S.covered B⟩ A
  ⟨S.waiting, S.corked, !S.permits hold, !permitsAt hold L.acked S.out S.mark, if every = 0 then 0 else L.fulls, max 0 (quick - L.arrived)⟩

section
variable {size every quick : Int}
theorem lrun_nil {l : Lst} : lrun size every quick l [] = l := rfl
theorem lrun_cons {l : Lst} {x : Int × Int} {A : Way} : lrun size every quick l (x :: A) = lrun size every quick (lstep size every quick l x.1) A := rfl
theorem lrun_append {A C : Way} : ∀ {l : Lst}, lrun size every quick l (A ++ C) = lrun size every quick (lrun size every quick l A) C := by
  intro l
  unfold lrun
  rw [List.foldl_append]
theorem ackd_append {c : Int} {B C : Way} : ackd c (B ++ C) = ackd (ackd c B) C := by
  unfold ackd
  rw [List.foldl_append]
theorem cnt_cons {x : Int × Int} {A : Way} : cnt (x :: A) = x.1 + cnt A := by
  unfold cnt
  simp
theorem cnt_append {A C : Way} : cnt (A ++ C) = cnt A + cnt C := by
  unfold cnt
  simp
theorem cnt_nil : cnt [] = 0 := rfl
theorem lstep_heard {l : Lst} {c : Int} : (lstep size every quick l c).heard = l.heard + c := by
  unfold lstep
  split
  · omega
  · split <;> rfl
theorem lstep_ok {l : Lst} {c : Int} (hc : 0 ≤ c) (ha : l.acked ≤ l.heard) (hf : 0 ≤ l.fulls) (he : 0 < every → l.fulls < every) :
    l.acked ≤ (lstep size every quick l c).acked ∧ (lstep size every quick l c).acked ≤ (lstep size every quick l c).heard ∧ 0 ≤ (lstep size every quick l c).fulls ∧ (0 < every → (lstep size every quick l c).fulls < every) ∧ l.arrived ≤ (lstep size every quick l c).arrived := by
  unfold lstep
  split
  · exact ⟨Int.le_refl _, ha, hf, he, Int.le_refl _⟩
  · split
    · refine ⟨?_, ?_, ?_, ?_, ?_⟩ <;> dsimp only <;> omega
    · rename_i h1 h2
      refine ⟨?_, ?_, ?_, ?_, ?_⟩ <;> dsimp only
      · omega
      · omega
      · have := isF_nn size c
        omega
      · intro q
        have := he q
        by_cases e : c = size
        · rw [isF_pos e]
          rw [isF_pos e] at h2
          omega
        · rw [isF_neg e]
          omega
      · omega
theorem lrun_ok : ∀ {A : Way} {l : Lst}, (∀ x ∈ A, 0 ≤ x.1) → l.acked ≤ l.heard → 0 ≤ l.fulls → (0 < every → l.fulls < every) →
    (lrun size every quick l A).heard = l.heard + cnt A ∧ l.acked ≤ (lrun size every quick l A).acked ∧ (lrun size every quick l A).acked ≤ (lrun size every quick l A).heard ∧ 0 ≤ (lrun size every quick l A).fulls ∧
      (0 < every → (lrun size every quick l A).fulls < every) ∧ l.arrived ≤ (lrun size every quick l A).arrived
  | [], l, _, ha, hf, he => by
    rw [lrun_nil, cnt_nil]
    exact ⟨by omega, Int.le_refl _, ha, hf, he, Int.le_refl _⟩
  | x :: A, l, hA, ha, hf, he => by
    have hx := hA x List.mem_cons_self
    obtain ⟨h1, h2, h3, h4, h5⟩ := lstep_ok (size := size) (quick := quick) (l := l) (c := x.1) hx ha hf he
    obtain ⟨g1, g2, g3, g4, g5, g6⟩ := lrun_ok (A := A) (l := lstep size every quick l x.1) (fun y hy => hA y (List.mem_cons_of_mem _ hy)) h2 h3 h4
    rw [lrun_cons, cnt_cons]
    refine ⟨?_, Int.le_trans h1 g2, g3, g4, g5, Int.le_trans h5 g6⟩
    rw [g1, lstep_heard]
    omega
theorem lrun_zero : ∀ {A : Way} {l : Lst}, (∀ x ∈ A, x.1 = 0) → lrun size every quick l A = l
  | [], _, _ => rfl
  | x :: A, l, h => by
    rw [lrun_cons, show lstep size every quick l x.1 = l by unfold lstep; rw [if_pos (h x List.mem_cons_self)]]
    exact lrun_zero fun y hy => h y (List.mem_cons_of_mem _ hy)
theorem ackd_ok : ∀ {B : Way} {c m : Int}, c ≤ m → (∀ x ∈ B, x.2 ≤ m) → c ≤ ackd c B ∧ ackd c B ≤ m
  | [], c, m, h, _ => ⟨Int.le_refl _, h⟩
  | x :: B, c, m, h, hB => by
    have h1 := hB x List.mem_cons_self
    obtain ⟨g1, g2⟩ := ackd_ok (B := B) (c := max c x.2) (m := m) (by omega) fun y hy => hB y (List.mem_cons_of_mem _ hy)
    have e : ackd c (x :: B) = ackd (max c x.2) B := rfl
    rw [e]
    exact ⟨by omega, g2⟩
end

theorem permits_mono {h : Hold} {c c' out mark : Int} (hc : c ≤ c') (ho : c' ≤ out) (p : permitsAt h c out mark = true) : permitsAt h c' out mark = true := by
  unfold permitsAt at *
  cases h
  · rfl
  · simp at *
    omega
  · simp at *
    omega

/-- what holds of the two sides within a turn (b: what the speaker was given ahead of the turn; Gs, Gt: what both were given so far) -/
structure Core (size : Int) (hold : Hold) (every quick : Int) (S T : Side) (A B : Way) (Gs Gt b : Int) : Prop where
  sum : S.out + S.waiting = Gs
  tout : T.out = Gt
  twait : T.waiting = 0
  tcork : T.corked = false
  w0 : 0 ≤ S.waiting
  w1 : S.waiting < size
  cork : S.corked = true → 0 < S.waiting
  sheard : S.heard = Gt
  bcnt : ∀ x ∈ B, x.1 = 0
  back : ∀ x ∈ B, x.2 ≤ T.heard
  acnt : ∀ x ∈ A, 0 ≤ x.1 ∧ x.1 ≤ size
  asum : T.heard + cnt A = S.out
  cov : S.covered ≤ T.heard
  mark : S.mark ≤ S.out
  held : 0 < S.waiting → S.corked = false → S.permits hold = false
  ful0 : 0 ≤ T.fulls
  ful1 : 0 < every → T.fulls < every
  aack : ∀ x ∈ A, x.2 ≤ Gt
  aack' : ∀ x ∈ A, 0 < x.1 → x.2 = Gt
  tcov : T.covered ≤ Gt
  tmark : T.mark ≤ Gt
  bGs : b ≤ Gs
  bheard : b ≤ T.heard
  tcov' : b < T.heard → T.covered = Gt
  stale : ∃ st sg, A = st ++ sg ∧ (∀ x ∈ st, x.1 = 0) ∧ (∀ x ∈ sg, 0 < x.1) ∧ (st ≠ [] → T.heard = b)
  sful : b < S.out → S.fulls = 0

section
variable {size every quick Gs Gt b : Int} {hold : Hold} {S T : Side} {A B : Way}

/-- the run that the turn state looks at -/
theorem Core.run (C : Core size hold every quick S T A B Gs Gt b) :
    (lrun size every quick ⟨T.fulls, T.arrived, T.heard, ackd S.covered B⟩ A).heard = S.out ∧ S.covered ≤ (lrun size every quick ⟨T.fulls, T.arrived, T.heard, ackd S.covered B⟩ A).acked ∧
    (lrun size every quick ⟨T.fulls, T.arrived, T.heard, ackd S.covered B⟩ A).acked ≤ S.out ∧ 0 ≤ (lrun size every quick ⟨T.fulls, T.arrived, T.heard, ackd S.covered B⟩ A).fulls ∧
    (0 < every → (lrun size every quick ⟨T.fulls, T.arrived, T.heard, ackd S.covered B⟩ A).fulls < every) ∧ T.arrived ≤ (lrun size every quick ⟨T.fulls, T.arrived, T.heard, ackd S.covered B⟩ A).arrived ∧
    ackd S.covered B ≤ (lrun size every quick ⟨T.fulls, T.arrived, T.heard, ackd S.covered B⟩ A).acked ∧ T.heard ≤ S.out := by
  obtain ⟨a1, a2⟩ := ackd_ok C.cov C.back
  obtain ⟨h1, h2, h3, h4, h5, h6⟩ := lrun_ok (size := size) (every := every) (quick := quick) (A := A) (l := ⟨T.fulls, T.arrived, T.heard, ackd S.covered B⟩) (fun x hx => (C.acnt x hx).1) a2 C.ful0 C.ful1
  have e := C.asum
  simp only at h1 h2 h6
  have nn : 0 ≤ cnt A := by
    have : ∀ A : Way, (∀ x ∈ A, 0 ≤ x.1) → 0 ≤ cnt A := by
      intro A
      induction A with
      | nil => intro _; exact Int.le_refl _
      | cons x A ih =>
        intro h
        rw [cnt_cons]
        have := ih fun y hy => h y (List.mem_cons_of_mem _ hy)
        have := h x List.mem_cons_self
        omega
    exact this A fun x hx => (C.acnt x hx).1
  exact ⟨by omega, by omega, by omega, h4, h5, h6, h2, by omega⟩

/-! ### something arrives from the speaker -/
def arrA (size every quick : Int) (T : Side) (B : Way) (x : Int × Int) : Side × Way :=
  let T1 : Side := { T with covered := max T.covered x.2 }
  if x.1 = 0 then (T1, B) else
  let T2 : Side := { T1 with heard := T1.heard + x.1, arrived := T1.arrived + 1, fulls := T1.fulls + isF size x.1 }
  if T2.arrived ≤ quick ∨ (x.1 = size ∧ T2.fulls = every) then (T2.sent size 0, B ++ [(0, T2.heard)]) else (T2, B)

theorem arrA_abs {x : Int × Int} : absP size hold every quick S (arrA size every quick T B x).1 A (arrA size every quick T B x).2 = absP size hold every quick S T (x :: A) B := by
  have e : lstep size every quick ⟨T.fulls, T.arrived, T.heard, ackd S.covered B⟩ x.1 =
      ⟨(arrA size every quick T B x).1.fulls, (arrA size every quick T B x).1.arrived, (arrA size every quick T B x).1.heard, ackd S.covered (arrA size every quick T B x).2⟩ := by
    unfold lstep arrA
    simp only
    by_cases h : x.1 = 0
    · simp [h]
    · rw [if_neg h, if_neg h]
      split
      · simp only [Side.sent, ackd_append]
        rfl
      · rfl
  unfold absP
  rw [lrun_cons, e]

theorem arrA_core {x : Int × Int} (C : Core size hold every quick S T (x :: A) B Gs Gt b) : Core size hold every quick S (arrA size every quick T B x).1 A (arrA size every quick T B x).2 Gs Gt b := by
  obtain ⟨x0, x1⟩ := C.acnt x List.mem_cons_self
  have xa := C.aack x List.mem_cons_self
  have xa' := C.aack' x List.mem_cons_self
  have sm := C.asum
  rw [cnt_cons] at sm
  have tc := C.tcov
  have tm := C.tmark
  have f0 := C.ful0
  have f1 := C.ful1
  have cv := C.cov
  have tcv := C.tcov'
  have bh := C.bheard
  have to := C.tout
  have tw := C.twait
  have acnt : ∀ y ∈ A, 0 ≤ y.1 ∧ y.1 ≤ size := fun y hy => C.acnt y (List.mem_cons_of_mem _ hy)
  have aack : ∀ y ∈ A, y.2 ≤ Gt := fun y hy => C.aack y (List.mem_cons_of_mem _ hy)
  have aack' : ∀ y ∈ A, 0 < y.1 → y.2 = Gt := fun y hy => C.aack' y (List.mem_cons_of_mem _ hy)
  obtain ⟨st, sg, e, hst, hsg, hh⟩ := C.stale
  unfold arrA
  simp only
  by_cases h : x.1 = 0
  · rw [if_pos h]
    refine ⟨C.sum, C.tout, C.twait, C.tcork, C.w0, C.w1, C.cork, C.sheard, C.bcnt, C.back, acnt, by simp only; omega, C.cov, C.mark, C.held, C.ful0, C.ful1, aack, aack', by simp only; omega, C.tmark, C.bGs, C.bheard, ?_, ?_, C.sful⟩
    · simp only
      intro q
      have := tcv q
      omega
    · cases st with
      | nil =>
        cases sg with
        | nil => cases e
        | cons y sg =>
          have ey : x = y ∧ A = sg := by simpa using e
          have := hsg y List.mem_cons_self
          rw [← ey.1] at this
          omega
      | cons y st =>
        have ey : x = y ∧ A = st ++ sg := by simpa using e
        exact ⟨st, sg, ey.2, fun z hz => hst z (List.mem_cons_of_mem _ hz), hsg, fun _ => hh (List.cons_ne_nil _ _)⟩
  · rw [if_neg h]
    have hx : 0 < x.1 := by omega
    have e2 := xa' hx
    have est : st = [] := by
      cases st with
      | nil => rfl
      | cons y st =>
        have ey : x = y ∧ A = st ++ sg := by simpa using e
        have := hst y List.mem_cons_self
        rw [← ey.1] at this
        omega
    subst est
    have esg : ∀ z ∈ A, 0 < z.1 := fun z hz => hsg z (by
      have e' : x :: A = sg := by simpa using e
      rw [← e']
      exact List.mem_cons_of_mem _ hz)
    split
    · refine ⟨C.sum, by simp only [Side.sent]; omega, by simp only [Side.sent]; omega, by simp [Side.sent, C.tcork], C.w0, C.w1, C.cork, C.sheard, ?_, ?_, acnt, by simp only [Side.sent]; omega, by simp only [Side.sent]; omega, C.mark, C.held,
        by simp [Side.sent], by simp [Side.sent], aack, aack', by simp only [Side.sent]; omega, by simpa [Side.sent] using tm, C.bGs, by simp only [Side.sent]; omega, ?_, ⟨[], A, rfl, fun _ z => (nomatch z), esg, fun z => absurd rfl z⟩, C.sful⟩
      · intro y hy
        rcases List.mem_append.mp hy with q | q
        · exact C.bcnt y q
        · rw [List.mem_singleton.mp q]
      · intro y hy
        simp only [Side.sent]
        rcases List.mem_append.mp hy with q | q
        · have := C.back y q
          omega
        · rw [List.mem_singleton.mp q]
          exact Int.le_refl _
      · simp only [Side.sent]
        intro _
        omega
    · rename_i hn
      refine ⟨C.sum, C.tout, C.twait, C.tcork, C.w0, C.w1, C.cork, C.sheard, C.bcnt, ?_, acnt, by simp only; omega, by simp only; omega, C.mark, C.held, ?_, ?_, aack, aack', by simp only; omega, C.tmark, C.bGs, by simp only; omega, ?_,
        ⟨[], A, rfl, fun _ z => (nomatch z), esg, fun z => absurd rfl z⟩, C.sful⟩
      · intro y hy
        simp only
        have := C.back y hy
        omega
      · simp only
        have := isF_nn size x.1
        omega
      · simp only
        intro q
        have := f1 q
        by_cases e : x.1 = size
        · rw [isF_pos e]
          rw [isF_pos e] at hn
          omega
        · rw [isF_neg e]
          omega
      · simp only
        intro _
        omega

/-! ### something arrives from the listener -/
def arrB (size : Int) (hold : Hold) (S : Side) (A : Way) (x : Int × Int) : Side × Way :=
  let S1 : Side := { S with covered := max S.covered x.2 }
  if 0 < S1.waiting ∧ S1.corked = false ∧ S1.permits hold = true then (S1.sent size S1.waiting, A ++ [(S1.waiting, S1.heard)]) else (S1, A)

/-- the rule of this turn -/
abbrev rl (size : Int) (hold : Hold) (every : Int) : Rule := ⟨size, hold, every⟩

/-- a partial segment is sent: the turn state (the policy may or may not permit it) -/
theorem part_abs (C : Core size hold every quick S T A B Gs Gt b) (hs : 0 < S.waiting) (bk : Bool) (st : Bool) :
    absP size hold every quick (S.sent size S.waiting) T (A ++ [(S.waiting, S.heard)]) B = (wp (rl size hold every) { absP size hold every quick S T A B with blocked := bk, stuck := st }).1 := by
  have hw := C.w1
  have hcond : 0 < S.waiting ∧ S.waiting < size := ⟨hs, hw⟩
  obtain ⟨r1, r2, r3, r4, r5, r6, r7, r8⟩ := C.run
  unfold absP
  simp only [lrun_append, lrun_cons, lrun_nil]
  have ec : (S.sent size S.waiting).covered = S.covered := rfl
  have eo : (S.sent size S.waiting).out = S.out + S.waiting := rfl
  have em : (S.sent size S.waiting).mark = S.out + S.waiting := by simp [Side.sent, hcond]
  have ek : (S.sent size S.waiting).corked = false := by simp [Side.sent, hcond]
  have ew : (S.sent size S.waiting).waiting = 0 := by simp [Side.sent]
  rw [ec, eo, em, ek, ew]
  generalize lrun size every quick ⟨T.fulls, T.arrived, T.heard, ackd S.covered B⟩ A = L at *
  have ne : ¬ (S.waiting = 0) := by omega
  have ns : ¬ (S.waiting = size) := by omega
  have cv := C.cov
  have b1 : (!(S.sent size S.waiting).permits hold) = decide (hold ≠ .off) := by
    unfold Side.permits
    rw [ec, eo, em]
    unfold permitsAt
    cases hold
    · rfl
    · simp
      omega
    · simp
      omega
  rw [b1]
  unfold lstep wp
  rw [if_neg ne]
  simp only [ns, false_and, or_false, isF_neg ns, Int.add_zero]
  by_cases hq : L.arrived + 1 ≤ quick
  · rw [if_pos hq]
    have q1 : max 0 (quick - L.arrived) > 0 := by omega
    have q2 : max 0 (quick - (L.arrived + 1)) = max 0 (quick - L.arrived) - 1 := by omega
    rw [if_pos q1]
    simp only [q2]
    have st1 : (!permitsAt hold (max L.acked (L.heard + S.waiting)) (S.out + S.waiting) (S.out + S.waiting)) = false := by
      unfold permitsAt
      cases hold
      · rfl
      · simp
        omega
      · simp
        omega
    rw [st1]
    simp
  · rw [if_neg hq]
    have q1 : ¬ (max 0 (quick - L.arrived) > 0) := by omega
    have q2 : max 0 (quick - (L.arrived + 1)) = 0 := by omega
    rw [if_neg q1]
    simp only [q2]
    have st1 : (!permitsAt hold L.acked (S.out + S.waiting) (S.out + S.waiting)) = decide (hold ≠ .off) := by
      unfold permitsAt
      cases hold
      · rfl
      · simp
        omega
      · simp
        omega
    rw [st1]

/-- .. and what holds -/
theorem part_core (C : Core size hold every quick S T A B Gs Gt b) (hs : 0 < S.waiting) : Core size hold every quick (S.sent size S.waiting) T (A ++ [(S.waiting, S.heard)]) B Gs Gt b := by
  have hw := C.w1
  have hcond : 0 < S.waiting ∧ S.waiting < size := ⟨hs, hw⟩
  obtain ⟨r1, r2, r3, r4, r5, r6, r7, r8⟩ := C.run
  have ec : (S.sent size S.waiting).covered = S.covered := rfl
  have eo : (S.sent size S.waiting).out = S.out + S.waiting := rfl
  have em : (S.sent size S.waiting).mark = S.out + S.waiting := by simp [Side.sent, hcond]
  have ek : (S.sent size S.waiting).corked = false := by simp [Side.sent, hcond]
  have ew : (S.sent size S.waiting).waiting = 0 := by simp [Side.sent]
  have eh : (S.sent size S.waiting).heard = S.heard := rfl
  have sm := C.sum
  have am := C.asum
  have bh := C.bheard
  have sh := C.sheard
  obtain ⟨st, sg, e, hst, hsg, hh⟩ := C.stale
  refine ⟨by rw [eo, ew]; omega, C.tout, C.twait, C.tcork, by rw [ew]; exact Int.le_refl _, by rw [ew]; omega, (by rw [ek]; intro q; cases q), by rw [eh]; exact sh, C.bcnt, C.back, ?_, ?_, by rw [ec]; exact C.cov, by rw [em, eo]; exact Int.le_refl _,
    by rw [ew]; intro q; omega, C.ful0, C.ful1, ?_, ?_, C.tcov, C.tmark, C.bGs, C.bheard, C.tcov', ?_, fun _ => rfl⟩
  · intro y hy
    rcases List.mem_append.mp hy with q | q
    · exact C.acnt y q
    · rw [List.mem_singleton.mp q]
      exact ⟨by simp only; omega, by simp only; omega⟩
  · rw [cnt_append, cnt_cons, cnt_nil, eo]
    simp only
    omega
  · intro y hy
    rcases List.mem_append.mp hy with q | q
    · exact C.aack y q
    · rw [List.mem_singleton.mp q]
      simp only
      omega
  · intro y hy hp
    rcases List.mem_append.mp hy with q | q
    · exact C.aack' y q hp
    · rw [List.mem_singleton.mp q]
      exact sh
  · refine ⟨st, sg ++ [(S.waiting, S.heard)], by rw [e, List.append_assoc], hst, ?_, hh⟩
    intro y hy
    rcases List.mem_append.mp hy with q | q
    · exact hsg y q
    · rw [List.mem_singleton.mp q]
      exact hs

theorem permits_cov {h : Hold} {S : Side} {c : Int} : ({ S with covered := c } : Side).permits h = permitsAt h c S.out S.mark := rfl

theorem arrB_ok {x : Int × Int} (C : Core size hold every quick S T A (x :: B) Gs Gt b) : Core size hold every quick (arrB size hold S A x).1 T (arrB size hold S A x).2 B Gs Gt b ∧
    (absP size hold every quick (arrB size hold S A x).1 T (arrB size hold S A x).2 B = absP size hold every quick S T A (x :: B) ∨
      ((absP size hold every quick S T A (x :: B)).blocked = true ∧ (absP size hold every quick S T A (x :: B)).stuck = false ∧
        absP size hold every quick (arrB size hold S A x).1 T (arrB size hold S A x).2 B = ac (rl size hold every) (absP size hold every quick S T A (x :: B)))) := by
  have xb := C.back x List.mem_cons_self
  have cv := C.cov
  obtain ⟨r1, r2, r3, r4, r5, r6, r7, r8⟩ := C.run
  have ea : ackd (max S.covered x.2) B = ackd S.covered (x :: B) := rfl
  -- the side with the acknowledgment
  have absE : absP size hold every quick { S with covered := max S.covered x.2 } T A B = { absP size hold every quick S T A (x :: B) with blocked := !permitsAt hold (max S.covered x.2) S.out S.mark } := by
    unfold absP
    simp only [ea]
    rfl
  have perm_le : permitsAt hold S.covered S.out S.mark = true → permitsAt hold (max S.covered x.2) S.out S.mark = true := permits_mono (by omega) (by omega)
  have perm_stuck : permitsAt hold (max S.covered x.2) S.out S.mark = true → (absP size hold every quick S T A (x :: B)).stuck = false := by
    intro p
    unfold absP
    simp only
    have a1 := (ackd_ok (B := B) (c := max S.covered x.2) (m := T.heard) (by omega) fun y hy => C.back y (List.mem_cons_of_mem _ hy)).1
    rw [ea] at a1
    rw [permits_mono (c := max S.covered x.2) (by omega) r3 p]
    rfl
  have coreH : (0 < S.waiting → S.corked = false → permitsAt hold (max S.covered x.2) S.out S.mark = false) → Core size hold every quick { S with covered := max S.covered x.2 } T A B Gs Gt b := fun hd =>
    ⟨C.sum, C.tout, C.twait, C.tcork, C.w0, C.w1, C.cork, C.sheard, fun y hy => C.bcnt y (List.mem_cons_of_mem _ hy), fun y hy => C.back y (List.mem_cons_of_mem _ hy), C.acnt, C.asum, by simp only; omega, C.mark, hd, C.ful0, C.ful1, C.aack, C.aack', C.tcov, C.tmark, C.bGs, C.bheard, C.tcov', C.stale, C.sful⟩
  have bl : (absP size hold every quick S T A (x :: B)).blocked = !permitsAt hold S.covered S.out S.mark := rfl
  unfold arrB
  simp only
  split
  · rename_i hc
    obtain ⟨h1, h2, h3⟩ := hc
    rw [permits_cov] at h3
    have hb := C.held h1 h2
    unfold Side.permits at hb
    -- the core with waiting rest, but for held: through the partial's core
    have C' : Core size hold every quick S T A B Gs Gt b := ⟨C.sum, C.tout, C.twait, C.tcork, C.w0, C.w1, C.cork, C.sheard, fun y hy => C.bcnt y (List.mem_cons_of_mem _ hy), fun y hy => C.back y (List.mem_cons_of_mem _ hy), C.acnt, C.asum, C.cov, C.mark, C.held, C.ful0, C.ful1, C.aack, C.aack', C.tcov, C.tmark, C.bGs, C.bheard, C.tcov', C.stale, C.sful⟩
    have D := part_core C' h1
    refine ⟨⟨D.sum, D.tout, D.twait, D.tcork, D.w0, D.w1, D.cork, D.sheard, D.bcnt, D.back, D.acnt, D.asum, ?_, D.mark, fun q => ?_, D.ful0, D.ful1, D.aack, D.aack', D.tcov, D.tmark, D.bGs, D.bheard, D.tcov', D.stale, D.sful⟩, Or.inr ⟨?_, perm_stuck h3, ?_⟩⟩
    · simp only [Side.sent]
      omega
    · simp only [Side.sent] at q
      omega
    · rw [bl, hb]
      rfl
    · -- a core whose covered is the new one, as if the rest were kept
      have K : Core size hold every quick { S with covered := max S.covered x.2, corked := true } T A B Gs Gt b :=
        ⟨C.sum, C.tout, C.twait, C.tcork, C.w0, C.w1, fun _ => h1, C.sheard, fun y hy => C.bcnt y (List.mem_cons_of_mem _ hy), fun y hy => C.back y (List.mem_cons_of_mem _ hy), C.acnt, C.asum, by simp only; omega, C.mark, fun _ q => Bool.noConfusion q, C.ful0, C.ful1, C.aack, C.aack', C.tcov, C.tmark, C.bGs, C.bheard, C.tcov', C.stale, C.sful⟩
      have e := part_abs K h1 false false
      have e1 : ({ S with covered := max S.covered x.2, corked := true } : Side).sent size S.waiting = ({ S with covered := max S.covered x.2 } : Side).sent size S.waiting := by
        have hcond : 0 < S.waiting ∧ S.waiting < size := ⟨h1, C.w1⟩
        simp [Side.sent, hcond]
      simp only [e1] at e
      rw [e]
      unfold ac ac3
      have hbl : (absP size hold every quick S T A (x :: B)).blocked = true := by rw [bl, hb]; rfl
      have hst := perm_stuck h3
      rw [if_neg (by rw [hbl, hst]; simp)]
      have hr : ¬ ((absP size hold every quick S T A (x :: B)).rest = 0 ∨ (absP size hold every quick S T A (x :: B)).kept = true) := by
        show ¬ (S.waiting = 0 ∨ S.corked = true)
        rw [h2]
        simp
        omega
      simp only
      rw [if_neg hr]
      unfold absP wp
      simp only [ea]
  · rename_i hc
    rw [permits_cov] at hc
    have hd : 0 < S.waiting → S.corked = false → permitsAt hold (max S.covered x.2) S.out S.mark = false := by
      intro h1 h2
      simp only [h1, h2, true_and] at hc
      cases e : permitsAt hold (max S.covered x.2) S.out S.mark with
      | false => rfl
      | true => exact absurd e hc
    refine ⟨coreH hd, ?_⟩
    rw [absE]
    cases e : permitsAt hold (max S.covered x.2) S.out S.mark with
    | false =>
      left
      have : permitsAt hold S.covered S.out S.mark = false := by
        cases e' : permitsAt hold S.covered S.out S.mark with
        | false => rfl
        | true => rw [perm_le e'] at e; cases e
      unfold absP
      simp only [Side.permits, this]
    | true =>
      cases e' : permitsAt hold S.covered S.out S.mark with
      | true =>
        left
        unfold absP
        simp only [Side.permits, e']
      | false =>
        right
        have hbl : (absP size hold every quick S T A (x :: B)).blocked = true := by rw [bl, e']; rfl
        have hst := perm_stuck e
        refine ⟨hbl, hst, ?_⟩
        unfold ac ac3
        rw [if_neg (by rw [hbl, hst]; simp)]
        have hr : (absP size hold every quick S T A (x :: B)).rest = 0 ∨ (absP size hold every quick S T A (x :: B)).kept = true := by
          show S.waiting = 0 ∨ S.corked = true
          have := C.w0
          by_cases h0 : S.waiting = 0
          · exact Or.inl h0
          · right
            cases hk : S.corked with
            | true => rfl
            | false => rw [hd (by omega) hk] at e; cases e
        simp only
        rw [if_pos hr]
        simp [hst]
end
end LW

/-! Latewords, the plain part 3: a write, the timer, the turn's end, a clearing, on one turn's two sides. -/
namespace LW

/-- a side without its rest -/
def z (S : Side) : Side := { S with waiting := 0, corked := false }

section
variable {size every quick Gs Gt b : Int} {hold : Hold} {S T : Side} {A B : Way}

theorem Core.bOut (C : Core size hold every quick S T A B Gs Gt b) : b ≤ S.out := by
  have := C.run.2.2.2.2.2.2.2
  have := C.bheard
  omega
theorem Core.zed (C : Core size hold every quick S T A B Gs Gt b) : Core size hold every quick (z S) T A B S.out Gt b :=
  ⟨by simp [z], C.tout, C.twait, C.tcork, Int.le_refl _, by have := C.w0; have := C.w1; simp only [z]; omega, fun q => by simp [z] at q, C.sheard, C.bcnt, C.back, C.acnt, C.asum, C.cov, C.mark, fun q => by simp [z] at q, C.ful0, C.ful1, C.aack, C.aack', C.tcov, C.tmark, C.bOut, C.bheard, C.tcov', C.stale, C.sful⟩
/-- a rest again -/
theorem Core.unzed (C : Core size hold every quick (z S) T A B S.out Gt b) (h0 : 0 ≤ S.waiting) (h1 : S.waiting < size) (hk : S.corked = true → 0 < S.waiting) (hh : 0 < S.waiting → S.corked = false → S.permits hold = false) : Core size hold every quick S T A B (S.out + S.waiting) Gt b :=
  ⟨rfl, C.tout, C.twait, C.tcork, h0, h1, hk, C.sheard, C.bcnt, C.back, C.acnt, C.asum, C.cov, C.mark, hh, C.ful0, C.ful1, C.aack, C.aack', C.tcov, C.tmark, by have := C.bGs; omega, C.bheard, C.tcov', C.stale, C.sful⟩
theorem absP_z : absP size hold every quick (z S) T A B = { absP size hold every quick S T A B with rest := 0, kept := false } := rfl
theorem absP_unz : absP size hold every quick S T A B = { absP size hold every quick (z S) T A B with rest := S.waiting, kept := S.corked } := rfl

theorem wf_rest (r : Rule) (p : Parts) (many rest : Int) (kept : Bool) : (wf r { p with rest := rest, kept := kept } many).1 = { (wf r p many).1 with rest := rest, kept := kept } := by
  unfold wf
  split <;> rfl
theorem wf_restv (r : Rule) (p : Parts) (many : Int) : (wf r p many).1.rest = p.rest ∧ (wf r p many).1.kept = p.kept := by
  unfold wf
  split <;> exact ⟨rfl, rfl⟩

/-! ### one full segment -/
theorem full1_core (hz : 1 ≤ size) (C : Core size hold every quick (z S) T A B S.out Gt b) : Core size hold every quick (z (S.sent size size)) T (A ++ [(size, S.heard)]) B (S.out + size) Gt b := by
  have sm := C.sum
  have am := C.asum
  have sh := C.sheard
  have mk := C.mark
  have bo := C.bGs
  simp only [z] at sm am sh mk
  have nm : ¬ (0 < size ∧ size < size) := by omega
  obtain ⟨st, sg, e, hst, hsg, hh⟩ := C.stale
  refine ⟨by simp [z, Side.sent], C.tout, C.twait, C.tcork, Int.le_refl _, by simp only [z]; omega, fun q => by simp [z] at q, sh, C.bcnt, C.back, ?_, ?_, C.cov, ?_, fun q => by simp [z] at q, C.ful0, C.ful1, ?_, ?_, C.tcov, C.tmark, by omega, C.bheard, C.tcov', ?_, fun _ => rfl⟩
  · intro y hy
    rcases List.mem_append.mp hy with q | q
    · exact C.acnt y q
    · rw [List.mem_singleton.mp q]
      exact ⟨by simp only; omega, Int.le_refl _⟩
  · rw [cnt_append, cnt_cons, cnt_nil]
    simp only [z, Side.sent]
    omega
  · simp only [z, Side.sent, if_neg nm]
    omega
  · intro y hy
    rcases List.mem_append.mp hy with q | q
    · exact C.aack y q
    · rw [List.mem_singleton.mp q]
      simp only
      omega
  · intro y hy hp
    rcases List.mem_append.mp hy with q | q
    · exact C.aack' y q hp
    · rw [List.mem_singleton.mp q]
      exact sh
  · refine ⟨st, sg ++ [(size, S.heard)], by rw [e, List.append_assoc], hst, ?_, hh⟩
    intro y hy
    rcases List.mem_append.mp hy with q | q
    · exact hsg y q
    · rw [List.mem_singleton.mp q]
      show (0 : Int) < size
      omega

theorem full1_abs (hz : 1 ≤ size) (he : 0 ≤ every) (C : Core size hold every quick (z S) T A B S.out Gt b) :
    absP size hold every quick (z (S.sent size size)) T (A ++ [(size, S.heard)]) B = (wf (rl size hold every) (absP size hold every quick (z S) T A B) 1).1 := by
  obtain ⟨r1, r2, r3, r4, r5, r6, r7, r8⟩ := C.run
  have cv := C.cov
  have mk := C.mark
  have nm : ¬ (0 < size ∧ size < size) := by omega
  have ec : (z (S.sent size size)).covered = S.covered := rfl
  have eo : (z (S.sent size size)).out = S.out + size := rfl
  have em : (z (S.sent size size)).mark = S.mark := by simp [z, Side.sent, nm]
  have ek : (z (S.sent size size)).corked = false := rfl
  have ew : (z (S.sent size size)).waiting = 0 := rfl
  simp only [z] at r1 r2 r3 r4 r5 r6 r7 r8 cv mk
  unfold absP
  simp only [lrun_append, lrun_cons, lrun_nil]
  rw [ec, eo, em, ek, ew]
  have zc : (z S).covered = S.covered := rfl
  have zo : (z S).out = S.out := rfl
  have zm : (z S).mark = S.mark := rfl
  have zk : (z S).corked = false := rfl
  have zw : (z S).waiting = 0 := rfl
  rw [zc, zo, zm, zk, zw]
  generalize lrun size every quick ⟨T.fulls, T.arrived, T.heard, ackd S.covered B⟩ A = L at *
  have b0 : (z (S.sent size size)).permits hold = permitsAt hold S.covered (S.out + size) S.mark := by
    unfold Side.permits
    rw [ec, eo, em]
  have b1 : (z S).permits hold = permitsAt hold S.covered S.out S.mark := rfl
  rw [b0, b1]
  have ne : ¬ (size = 0) := by omega
  have n1 : ¬ ((1 : Int) = 0) := by decide
  unfold lstep wf
  rw [if_neg ne, if_neg n1]
  simp only [true_and, isF_pos]
  by_cases hq : L.arrived + 1 ≤ quick
  · rw [if_pos (Or.inl hq)]
    have m1 : min (max 0 (quick - L.arrived)) 1 = 1 := by omega
    have m2 : max 0 (quick - (L.arrived + 1)) = max 0 (quick - L.arrived) - 1 := by omega
    simp only [m1, m2, Int.sub_self, gt_iff_lt, Int.zero_lt_one, if_true, Int.add_zero, Int.zero_emod, Int.zero_ediv, ite_self]
    cases hold
    · simp [permitsAt]
    · simp [permitsAt]
      omega
    · simp [permitsAt]
      omega
  · have m1 : min (max 0 (quick - L.arrived)) 1 = 0 := by omega
    have m2 : max 0 (quick - (L.arrived + 1)) = max 0 (quick - L.arrived) := by omega
    have n0 : ¬ ((0 : Int) > 0) := by decide
    simp only [m1, if_neg n0, Int.sub_zero]
    by_cases hE : every = 0
    · have hn : ¬ (L.arrived + 1 ≤ quick ∨ L.fulls + 1 = every) := by omega
      have hE' : ¬ (every > 0) := by omega
      rw [if_neg hn]
      simp only [m2, if_pos hE, if_neg hE']
      cases hold
      · simp [permitsAt]
      · simp [permitsAt]
      · simp [permitsAt, hE]
        omega
    · have hE' : every > 0 := by omega
      have hl := r5 hE'
      simp only [if_neg hE, if_pos hE']
      by_cases hf : L.fulls + 1 = every
      · rw [if_pos (Or.inr hf)]
        have e1 : (L.fulls + 1) % every = 0 := by rw [hf, Int.emod_self]
        have e2 : (L.fulls + 1) / every = 1 := by rw [hf]; exact Int.ediv_self hE
        simp only [m2, e1, e2]
        cases hold
        · simp [permitsAt, e1]
        · simp [permitsAt, e1]
          omega
        · simp [permitsAt, hE, e1]
          omega
      · have hn : ¬ (L.arrived + 1 ≤ quick ∨ L.fulls + 1 = every) := by omega
        rw [if_neg hn]
        have e1 : (L.fulls + 1) % every = L.fulls + 1 := Int.emod_eq_of_lt (by omega) (by omega)
        have e2 : (L.fulls + 1) / every = 0 := Int.ediv_eq_zero_of_lt (by omega) (by omega)
        simp only [m2, e1, e2]
        cases hold
        · simp [permitsAt]
        · simp [permitsAt]
        · have p1 : 0 < L.fulls + 1 := by omega
          have p2 : ¬ L.acked = S.out + size := by omega
          simp [permitsAt, hE, e1, p1, p2]
          omega

/-! ### many full segments -/
def fullN (size : Int) : Nat → Side × Way → Side × Way
  | 0, x => x
  | n + 1, x => ((fullN size n x).1.sent size size, (fullN size n x).2 ++ [(size, (fullN size n x).1.heard)])

theorem absP_good (C : Core size hold every quick S T A B Gs Gt b) : 0 ≤ (absP size hold every quick S T A B).quick ∧ 0 ≤ (absP size hold every quick S T A B).pending ∧ (0 < every → (absP size hold every quick S T A B).pending < every) ∧ (every = 0 → (absP size hold every quick S T A B).pending = 0) := by
  obtain ⟨r1, r2, r3, r4, r5, r6, r7, r8⟩ := C.run
  unfold absP
  simp only
  refine ⟨by omega, ?_, ?_, ?_⟩
  · split <;> omega
  · intro h
    rw [if_neg (by omega)]
    exact r5 h
  · intro h
    rw [if_pos h]

theorem fullN_ok (hz : 1 ≤ size) (he : 0 ≤ every) (C : Core size hold every quick (z S) T A B S.out Gt b) : ∀ n : Nat,
    Core size hold every quick (z (fullN size n (S, A)).1) T (fullN size n (S, A)).2 B (fullN size n (S, A)).1.out Gt b ∧
    (fullN size n (S, A)).1.waiting = S.waiting - n * size ∧ (fullN size n (S, A)).1.corked = S.corked ∧
    absP size hold every quick (z (fullN size n (S, A)).1) T (fullN size n (S, A)).2 B = (wf (rl size hold every) (absP size hold every quick (z S) T A B) n).1 ∧
    (fullN size n (S, A)).1.out + (fullN size n (S, A)).1.waiting = S.out + S.waiting ∧
    ((fullN size n (S, A)).1.heard = S.heard ∧ (fullN size n (S, A)).1.arrived = S.arrived ∧ (fullN size n (S, A)).2.length = A.length + n)
  | 0 => ⟨C, by simp [fullN], rfl, by rw [show ((0 : Nat) : Int) = 0 from rfl, wf_zero]; rfl, rfl, rfl, rfl, rfl⟩
  | n + 1 => by
    obtain ⟨c1, c2, c3, c4, c5, c6, c7, c8⟩ := fullN_ok hz he C n
    have nm : ¬ (0 < size ∧ size < size) := by omega
    have d1 := full1_core hz c1
    have d2 := full1_abs hz he c1
    have G := absP_good C
    refine ⟨d1, ?_, ?_, ?_, ?_, c6, c7, ?_⟩
    · show (fullN size n (S, A)).1.waiting - size = _
      rw [c2]
      have : ((n + 1 : Nat) : Int) * size = n * size + size := by
        rw [show ((n + 1 : Nat) : Int) = n + 1 from rfl, Int.add_mul, Int.one_mul]
      omega
    · show (if 0 < size ∧ size < size then false else (fullN size n (S, A)).1.corked) = _
      rw [if_neg nm, c3]
    · show absP size hold every quick (z ((fullN size n (S, A)).1.sent size size)) T ((fullN size n (S, A)).2 ++ [(size, (fullN size n (S, A)).1.heard)]) B = _
      rw [d2, c4, wf_succ _ _ n he G.1 G.2.1 G.2.2.1 G.2.2.2]
    · show (fullN size n (S, A)).1.out + size + ((fullN size n (S, A)).1.waiting - size) = _
      omega
    · show ((fullN size n (S, A)).2 ++ [(size, (fullN size n (S, A)).1.heard)]).length = _
      rw [List.length_append, c8]
      simp
      omega

/-! ### a write -/
def wrC (size : Int) (hold : Hold) (S : Side) (A : Way) (len : Int) (mode : Mode) : Side × Way :=
  let x := fullN size ((S.waiting + len) / size).toNat ({ S with waiting := S.waiting + len, corked := false }, A)
  if x.1.waiting = 0 then x
  else if mode = .more then ({ x.1 with corked := true }, x.2)
  else if mode = .push ∨ x.1.permits hold = true then (x.1.sent size x.1.waiting, x.2 ++ [(x.1.waiting, x.1.heard)])
  else x

theorem wrC_ok (hz : 1 ≤ size) (he : 0 ≤ every) {len : Int} (hl : 1 ≤ len) {mode : Mode} (C : Core size hold every quick S T A B Gs Gt b) :
    Core size hold every quick (wrC size hold S A len mode).1 T (wrC size hold S A len mode).2 B (Gs + len) Gt b ∧
    absP size hold every quick (wrC size hold S A len mode).1 T (wrC size hold S A len mode).2 B = aw (rl size hold every) (absP size hold every quick S T A B) len mode ∧
    (wrC size hold S A len mode).1.arrived = S.arrived ∧ b < Gs + len := by
  have w0 := C.w0
  have sm := C.sum
  have Cz := C.zed
  have Cz' : Core size hold every quick (z { S with waiting := S.waiting + len, corked := false }) T A B ({ S with waiting := S.waiting + len, corked := false } : Side).out Gt b := Cz
  have hn : 0 ≤ (S.waiting + len) / size := Int.ediv_nonneg (by omega) (by omega)
  obtain ⟨c1, c2, c3, c4, c5, c6, c7, _⟩ := fullN_ok hz he Cz' ((S.waiting + len) / size).toNat
  have bG := C.bGs
  rw [Int.toNat_of_nonneg hn] at c2 c4
  have em : S.waiting + len - (S.waiting + len) / size * size = (S.waiting + len) % size := by
    have := Int.emod_add_ediv_mul (S.waiting + len) size
    omega
  have c2' : (fullN size ((S.waiting + len) / size).toNat ({ S with waiting := S.waiting + len, corked := false }, A)).1.waiting = (S.waiting + len) % size := by
    rw [c2]
    exact em
  have m0 := Int.emod_nonneg (S.waiting + len) (show size ≠ 0 by omega)
  have m1 := Int.emod_lt_of_pos (S.waiting + len) (show 0 < size by omega)
  -- the turn state behind the full segments
  have f1 : (wf (rl size hold every) { absP size hold every quick S T A B with rest := (S.waiting + len) % size, kept := false } ((S.waiting + len) / size)).1 =
      absP size hold every quick (fullN size ((S.waiting + len) / size).toNat ({ S with waiting := S.waiting + len, corked := false }, A)).1 T (fullN size ((S.waiting + len) / size).toNat ({ S with waiting := S.waiting + len, corked := false }, A)).2 B := by
    rw [absP_unz (S := (fullN size ((S.waiting + len) / size).toNat ({ S with waiting := S.waiting + len, corked := false }, A)).1), c4, c2', c3]
    exact wf_rest _ { absP size hold every quick S T A B with rest := 0, kept := false } _ _ _
  have aw_ : aw (rl size hold every) (absP size hold every quick S T A B) len mode = (
      let f := wf (rl size hold every) { absP size hold every quick S T A B with rest := (S.waiting + len) % size, kept := false } ((S.waiting + len) / size)
      if (S.waiting + len) % size > 0 ∧ mode = .more then { f.1 with rest := (S.waiting + len) % size, kept := true }
      else if (S.waiting + len) % size > 0 ∧ (mode = .push ∨ f.1.blocked = false) then (wp (rl size hold every) f.1).1 else f.1) := by
    unfold aw aw3
    have er : (absP size hold every quick S T A B).rest = S.waiting := rfl
    simp only [er]
    by_cases h1 : (S.waiting + len) % size > 0 ∧ mode = .more
    · rw [if_pos h1, if_pos h1]
    · rw [if_neg h1, if_neg h1]
      split <;> rfl
  rw [aw_]
  simp only [f1]
  unfold wrC
  simp only
  generalize hx : fullN size ((S.waiting + len) / size).toNat ({ S with waiting := S.waiting + len, corked := false }, A) = x at *
  obtain ⟨S2, A2⟩ := x
  simp only at c1 c2' c3 c5 c6 c7 ⊢
  have g : S2.out + S2.waiting = Gs + len := by omega
  by_cases hr : S2.waiting = 0
  · rw [if_pos hr]
    have hr' : ¬ ((S.waiting + len) % size > 0) := by omega
    simp only [hr', false_and, if_false]
    refine ⟨?_, trivial, c7, by omega⟩
    have := c1.unzed (by omega) (by omega) (fun q => by rw [c3] at q; cases q) (fun q => by omega)
    rwa [g] at this
  · rw [if_neg hr]
    have hr' : (S.waiting + len) % size > 0 := by omega
    simp only [hr', true_and]
    have K : Core size hold every quick { S2 with corked := true } T A2 B (Gs + len) Gt b := by
      have := Core.unzed (S := { S2 with corked := true }) c1 (by simp only; omega) (by simp only; omega) (fun _ => by simp only; omega) (fun _ q => Bool.noConfusion q)
      rw [← g]
      exact this
    by_cases hm : mode = .more
    · rw [if_pos hm, if_pos hm]
      refine ⟨K, ?_, c7, by omega⟩
      rw [← c2']
      rfl
    · rw [if_neg hm, if_neg hm]
      have hb : (absP size hold every quick S2 T A2 B).blocked = !S2.permits hold := rfl
      rw [hb]
      have ecd : (mode = .push ∨ S2.permits hold = true) ↔ (mode = .push ∨ (!S2.permits hold) = false) := by
        cases S2.permits hold <;> simp
      by_cases hp : mode = .push ∨ S2.permits hold = true
      · rw [if_pos hp, if_pos (ecd.mp hp)]
        have hs : 0 < S2.waiting := by omega
        have hcond : 0 < S2.waiting ∧ S2.waiting < size := ⟨hs, by omega⟩
        have e1 : ({ S2 with corked := true } : Side).sent size S2.waiting = S2.sent size S2.waiting := by
          simp [Side.sent, hcond]
        have D := part_core K hs
        have Eq := part_abs K hs (absP size hold every quick S2 T A2 B).blocked (absP size hold every quick S2 T A2 B).stuck
        simp only [e1] at D Eq
        refine ⟨D, ?_, c7, by omega⟩
        simp only
        rw [Eq]
        rfl
      · rw [if_neg hp, if_neg fun q => hp (ecd.mpr q)]
        refine ⟨?_, rfl, c7, by omega⟩
        have := c1.unzed (by omega) (by omega) (fun q => by rw [c3] at q; cases q) (fun _ _ => by
          cases e : S2.permits hold with
          | false => rfl
          | true => exact absurd (Or.inr e) hp)
        rwa [g] at this

/-! ### the timer -/
theorem fireN_ok (C : Core size hold every quick S T [] [] Gs Gt b) (hs : 0 < S.waiting) (hk : S.corked = false) :
    Core size hold every quick S (T.sent size 0) [] [(0, T.heard)] Gs Gt b ∧
    absP size hold every quick S (T.sent size 0) [] [(0, T.heard)] = { absP size hold every quick S T [] [] with stuck := false, pending := 0 } := by
  have am := C.asum
  rw [cnt_nil] at am
  refine ⟨⟨C.sum, by simpa [Side.sent] using C.tout, by simpa [Side.sent] using C.twait, by simpa [Side.sent] using C.tcork, C.w0, C.w1, C.cork, C.sheard, ?_, ?_, C.acnt, C.asum, C.cov, C.mark, C.held, Int.le_refl _, fun h => h, C.aack, C.aack', C.tcov, by simpa [Side.sent] using C.tmark, C.bGs, C.bheard, C.tcov', C.stale, C.sful⟩, ?_⟩
  · intro y hy
    rw [List.mem_singleton.mp hy]
  · intro y hy
    rw [List.mem_singleton.mp hy]
    exact Int.le_refl _
  · unfold absP
    simp only [lrun_nil]
    have e : ackd S.covered [(0, T.heard)] = T.heard := by
      show max S.covered T.heard = T.heard
      have := C.cov
      omega
    rw [e]
    have mk := C.mark
    have p : permitsAt hold T.heard S.out S.mark = true := by
      unfold permitsAt
      cases hold
      · rfl
      · simp
        omega
      · simp
        omega
    rw [p]
    simp [Side.sent]

/-- nothing on the way: what blocks is stuck -/
theorem abs_still (C : Core size hold every quick S T [] [] Gs Gt b) : (absP size hold every quick S T [] []).stuck = (absP size hold every quick S T [] []).blocked := rfl

/-! ### the turn's end: the roles change -/
theorem switch_ok {every' quick' : Int} {hold' : Hold} (he' : 0 ≤ every') (C : Core size hold every quick S T A B Gs Gt b) (hb : b < Gs) (hh : T.heard = Gs) :
    A = [] ∧ Core size hold' every' quick' T S B [] Gt Gs Gt ∧
    absP size hold' every' quick' T S B [] = ⟨0, false, false, false, 0, max 0 (quick' - S.arrived)⟩ ∧
    (absP size hold every quick S T A B).rest = 0 ∧ (absP size hold every quick S T A B).quick = max 0 (quick - T.arrived) := by
  obtain ⟨r1, r2, r3, r4, r5, r6, r7, r8⟩ := C.run
  have sm := C.sum
  have w0 := C.w0
  have am := C.asum
  have sw : S.waiting = 0 := by omega
  have so : S.out = Gs := by omega
  have c0 : cnt A = 0 := by omega
  obtain ⟨st, sg, e, hst, hsg, hst'⟩ := C.stale
  have est : st = [] := by
    cases st with
    | nil => rfl
    | cons y st =>
      have := hst' (List.cons_ne_nil _ _)
      omega
  subst est
  have pos : ∀ l : Way, (∀ x ∈ l, 0 < x.1) → cnt l = 0 → l = [] := by
    intro l
    cases l with
    | nil => intro _ _; rfl
    | cons x l =>
      intro h h'
      rw [cnt_cons] at h'
      have h1 := h x List.mem_cons_self
      have : ∀ l : Way, (∀ x ∈ l, 0 < x.1) → 0 ≤ cnt l := by
        intro l
        induction l with
        | nil => intro _; exact Int.le_refl _
        | cons x l ih =>
          intro h
          rw [cnt_cons]
          have := ih fun y hy => h y (List.mem_cons_of_mem _ hy)
          have := h x List.mem_cons_self
          omega
      have := this l fun y hy => h y (List.mem_cons_of_mem _ hy)
      omega
  have eA : A = [] := pos A (by rw [e]; exact hsg) c0
  subst eA
  have f0 := C.sful (by omega)
  have tc := C.tcov' (by omega)
  have to := C.tout
  have tm := C.tmark
  have sh := C.sheard
  have scv := C.cov
  have smk := C.mark
  have ck : S.corked = false := by
    cases h : S.corked with
    | false => rfl
    | true =>
      have := C.cork h
      omega
  have szp : 0 < size := by
    have := C.w1
    omega
  have pm : permitsAt hold' T.covered T.out T.mark = true := by
    unfold permitsAt
    cases hold'
    · rfl
    · simp
      omega
    · simp
      omega
  refine ⟨rfl, ⟨by have := C.twait; omega, so, sw, ck, by have := C.twait; omega, by have := C.twait; omega, fun q => (by rw [C.tcork] at q; cases q), hh, fun _ q => (nomatch q), fun _ q => (nomatch q), ?_, ?_, by omega, by omega, fun q => by have := C.twait; omega, by omega, by omega, ?_, ?_, by omega, by omega, Int.le_refl _, by omega, fun q => by omega, ⟨B, [], (List.append_nil _).symm, C.bcnt, fun _ q => (nomatch q), fun _ => by omega⟩, fun q => by omega⟩, ?_, sw, ?_⟩
  · intro y hy
    have := C.bcnt y hy
    omega
  · have : cnt B = 0 := by
      have : ∀ l : Way, (∀ x ∈ l, x.1 = 0) → cnt l = 0 := by
        intro l
        induction l with
        | nil => intro _; rfl
        | cons x l ih =>
          intro h
          rw [cnt_cons, ih fun y hy => h y (List.mem_cons_of_mem _ hy), h x List.mem_cons_self]
          rfl
      exact this B C.bcnt
    omega
  · intro y hy
    have := C.back y hy
    omega
  · intro y hy hp
    have := C.bcnt y hy
    omega
  · unfold absP
    rw [lrun_zero C.bcnt]
    have e1 : ackd T.covered [] = T.covered := rfl
    simp only [e1, Side.permits, pm, C.twait, C.tcork, f0, ite_self]
    rfl
  · unfold absP
    rw [lrun_nil]

theorem arrB_pos {x : Int × Int} (h : 0 < S.waiting ∧ S.corked = false ∧ permitsAt hold (max S.covered x.2) S.out S.mark = true) :
    arrB size hold S A x = (({ S with covered := max S.covered x.2 } : Side).sent size S.waiting, A ++ [(S.waiting, S.heard)]) := by
  unfold arrB
  exact if_pos h
theorem arrB_neg {x : Int × Int} (h : ¬ (0 < S.waiting ∧ S.corked = false ∧ permitsAt hold (max S.covered x.2) S.out S.mark = true)) :
    arrB size hold S A x = ({ S with covered := max S.covered x.2 }, A) := by
  unfold arrB
  exact if_neg h
/-! ### a clearing's second half -/
/-- either nothing has changed yet and nothing is on the way from the speaker, or what a clearing does is done and stays -/
def Half (size : Int) (hold : Hold) (every quick : Int) (S T : Side) (A B : Way) (p : Parts) : Prop :=
  (A = [] ∧ absP size hold every quick S T A B = p) ∨
  (p.blocked = true ∧ p.stuck = false ∧ absP size hold every quick S T A B = ac (rl size hold every) p ∧ (S.permits hold = true ∨ (hold ≠ .off ∧ T.heard < S.mark ∧ T.heard < S.out)))

theorem half_step {x : Int × Int} {p : Parts} (C : Core size hold every quick S T A (x :: B) Gs Gt b) (h : Half size hold every quick S T A (x :: B) p) :
    Half size hold every quick (arrB size hold S A x).1 T (arrB size hold S A x).2 B p := by
  have xb := C.back x List.mem_cons_self
  have cv := C.cov
  obtain ⟨r1, r2, r3, r4, r5, r6, r7, r8⟩ := C.run
  have ea : ackd (max S.covered x.2) B = ackd S.covered (x :: B) := rfl
  have am := C.asum
  rcases h with ⟨hA, hp⟩ | ⟨hb, hs, hp, hq⟩
  · subst hA
    rw [cnt_nil] at am
    obtain ⟨C', ho⟩ := arrB_ok C
    rcases ho with ho | ⟨o1, o2, ho⟩
    · -- nothing was sent, or the turn state would differ
      by_cases hc : 0 < S.waiting ∧ S.corked = false ∧ permitsAt hold (max S.covered x.2) S.out S.mark = true
      · exfalso
        have hh := congrArg Parts.rest ho
        rw [arrB_pos hc] at hh
        simp only at hh
        have e1 : (absP size hold every quick (({ S with covered := max S.covered x.2 } : Side).sent size S.waiting) T ([] ++ [(S.waiting, S.heard)]) B).rest = 0 := by
          show S.waiting - S.waiting = 0
          omega
        have e2 : (absP size hold every quick S T [] (x :: B)).rest = S.waiting := rfl
        rw [e1, e2] at hh
        omega
      · left
        refine ⟨?_, ho.trans hp⟩
        rw [arrB_neg hc]
    · right
      rw [← hp]
      refine ⟨o1, o2, ho, ?_⟩
      by_cases hc : 0 < S.waiting ∧ S.corked = false ∧ permitsAt hold (max S.covered x.2) S.out S.mark = true
      · rw [arrB_pos hc]
        right
        have hcond : 0 < S.waiting ∧ S.waiting < size := ⟨hc.1, C.w1⟩
        have em : (({ S with covered := max S.covered x.2 } : Side).sent size S.waiting).mark = S.out + S.waiting := by simp [Side.sent, hcond]
        have eo : (({ S with covered := max S.covered x.2 } : Side).sent size S.waiting).out = S.out + S.waiting := rfl
        refine ⟨fun q => ?_, by simp only; rw [em]; omega, by simp only; rw [eo]; omega⟩
        subst q
        have : (absP size .off every quick S T [] (x :: B)).blocked = false := rfl
        rw [this] at o1
        cases o1
      · rw [arrB_neg hc]
        left
        simp only [permits_cov]
        cases e : permitsAt hold (max S.covered x.2) S.out S.mark with
        | true => rfl
        | false =>
          exfalso
          have hh := congrArg Parts.blocked ho
          rw [arrB_neg hc] at hh
          simp only at hh
          have e1 : (absP size hold every quick { S with covered := max S.covered x.2 } T [] B).blocked = true := by
            show (!permitsAt hold (max S.covered x.2) S.out S.mark) = true
            rw [e]
            rfl
          rw [e1] at hh
          -- ac of it: nothing is sent (else the rest would be gone), so it is unblocked
          have hr := congrArg Parts.rest ho
          rw [arrB_neg hc] at hr
          simp only at hr
          have e2 : (absP size hold every quick { S with covered := max S.covered x.2 } T [] B).rest = S.waiting := rfl
          rw [e2] at hr
          unfold ac ac3 at hh hr
          rw [if_neg (by rw [o1, o2]; simp)] at hh hr
          simp only at hh hr
          split at hh
          · cases hh
          · rename_i hn
            rw [if_neg hn] at hr
            simp only [wp_rest] at hr
            exact hn (Or.inl hr)
  · -- it was done: it stays
    have keep : absP size hold every quick (arrB size hold S A x).1 T (arrB size hold S A x).2 B = absP size hold every quick S T A (x :: B) ∧ ((arrB size hold S A x).1.permits hold = true ∨ (hold ≠ .off ∧ T.heard < (arrB size hold S A x).1.mark ∧ T.heard < (arrB size hold S A x).1.out)) := by
      rcases hq with hq | ⟨q1, q2, q3⟩
      · have hq' : permitsAt hold S.covered S.out S.mark = true := hq
        have hq2 : permitsAt hold (max S.covered x.2) S.out S.mark = true := permits_mono (by omega) (by omega) hq'
        have nh : ¬ (0 < S.waiting ∧ S.corked = false ∧ permitsAt hold (max S.covered x.2) S.out S.mark = true) := by
          rintro ⟨h1, h2, _⟩
          have := C.held h1 h2
          rw [hq] at this
          cases this
        rw [arrB_neg nh]
        refine ⟨?_, Or.inl hq2⟩
        unfold absP
        simp only [ea, Side.permits, hq', hq2]
      · have np : ∀ c, c ≤ T.heard → permitsAt hold c S.out S.mark = false := by
          intro c hc
          unfold permitsAt
          cases hold
          · exact absurd rfl q1
          · simp
            omega
          · simp
            omega
        have np2 := np (max S.covered x.2) (by omega)
        have np1 := np S.covered (by omega)
        have nh : ¬ (0 < S.waiting ∧ S.corked = false ∧ permitsAt hold (max S.covered x.2) S.out S.mark = true) := by
          rw [np2]
          simp
        rw [arrB_neg nh]
        refine ⟨?_, Or.inr ⟨q1, q2, q3⟩⟩
        unfold absP
        simp only [ea, Side.permits, np1, np2]
    exact Or.inr ⟨hb, hs, keep.1.trans hp, keep.2⟩
/-- at its end nothing is on the way from the listener: a clearing's turn state -/
theorem half_end {p : Parts} (C : Core size hold every quick S T A [] Gs Gt b) (h : Half size hold every quick S T A [] p) : absP size hold every quick S T A [] = ac (rl size hold every) p := by
  rcases h with ⟨hA, hp⟩ | ⟨_, _, hp, _⟩
  · subst hA
    rw [hp]
    refine (ac_id ?_).symm
    rw [← hp, abs_still C]
    rintro ⟨h1, h2⟩
    rw [h1] at h2
    cases h2
  · exact hp
end
end LW

/-! Latewords, the plain part 4: scenes, events, what is possible, the value of a scene, one event. -/
namespace LW

structure Cfg where
  size : Int
  p0 : Pol
  p1 : Pol
def Cfg.pol (c : Cfg) (e : Bool) : Pol := match e with
  | false => c.p0
  | true => c.p1
structure Cfg.Ok (c : Cfg) : Prop where
  size : 1 ≤ c.size
  every : ∀ e, 0 ≤ (c.pol e).every
  quick : ∀ e, 0 ≤ (c.pol e).quick
def Cfg.rule (c : Cfg) (s : Bool) : Rule := ⟨c.size, (c.pol s).hold, (c.pol !s).every⟩

structure Write where
  ep : Bool
  len : Int
  mode : Mode

structure Scene where
  made : Nat
  stalls : Int
  s0 : Side
  s1 : Side
  w0 : Way
  w1 : Way
def Scene.side (sc : Scene) (e : Bool) : Side := match e with
  | false => sc.s0
  | true => sc.s1
def Scene.way (sc : Scene) (e : Bool) : Way := match e with
  | false => sc.w0
  | true => sc.w1
/-- both sides and both ways, told from e -/
def Scene.put (sc : Scene) (e : Bool) (S T : Side) (A B : Way) : Scene := match e with
  | false => { sc with s0 := S, s1 := T, w0 := A, w1 := B }
  | true => { sc with s0 := T, s1 := S, w0 := B, w1 := A }
section
variable {sc : Scene} {e : Bool} {S T : Side} {A B : Way}
@[simp] theorem put_side : (sc.put e S T A B).side e = S := by cases e <;> rfl
@[simp] theorem put_side' : (sc.put e S T A B).side (!e) = T := by cases e <;> rfl
@[simp] theorem put_way : (sc.put e S T A B).way e = A := by cases e <;> rfl
@[simp] theorem put_way' : (sc.put e S T A B).way (!e) = B := by cases e <;> rfl
@[simp] theorem put_made : (sc.put e S T A B).made = sc.made := by cases e <;> rfl
@[simp] theorem put_stalls : (sc.put e S T A B).stalls = sc.stalls := by cases e <;> rfl
theorem put_flip : sc.put (!e) S T A B = sc.put e T S B A := by cases e <;> rfl
theorem put_same : sc.put e (sc.side e) (sc.side !e) (sc.way e) (sc.way !e) = sc := by cases e <;> rfl
theorem put_put {S' T' : Side} {A' B' : Way} : (sc.put e S T A B).put e S' T' A' B' = sc.put e S' T' A' B' := by cases e <;> rfl
end

/-- something arrives at a side R from whose endpoint W is on the way -/
def recv (size : Int) (hold : Hold) (every quick : Int) (R : Side) (W : Way) (x : Int × Int) : Side × Way :=
  let R1 : Side := { R with covered := max R.covered x.2 }
  let y : Side × Way := if 0 < R1.waiting ∧ R1.corked = false ∧ R1.permits hold = true then (R1.sent size R1.waiting, W ++ [(R1.waiting, R1.heard)]) else (R1, W)
  if x.1 = 0 then y else
  let R3 : Side := { y.1 with heard := y.1.heard + x.1, arrived := y.1.arrived + 1, fulls := y.1.fulls + isF size x.1 }
  if R3.arrived ≤ quick ∨ (x.1 = size ∧ R3.fulls = every) then (R3.sent size 0, y.2 ++ [(0, R3.heard)]) else (R3, y.2)
theorem recv_A {size every quick : Int} {hold : Hold} {R : Side} {W : Way} {x : Int × Int} (h : R.waiting = 0) : recv size hold every quick R W x = arrA size every quick R W x := by
  unfold recv arrA
  have : ¬ (0 < R.waiting ∧ R.corked = false ∧ ({ R with covered := max R.covered x.2 } : Side).permits hold = true) := by omega
  simp only [if_neg this]
theorem recv_B {size every quick : Int} {hold : Hold} {R : Side} {W : Way} {x : Int × Int} (h : x.1 = 0) : recv size hold every quick R W x = arrB size hold R W x := by
  unfold recv arrB
  simp only [if_pos h]

def Scene.arrive (cfg : Cfg) (sc : Scene) (e : Bool) : Scene :=
  match sc.way e with
  | [] => sc
  | x :: r =>
    let y := recv cfg.size (cfg.pol !e).hold (cfg.pol !e).every (cfg.pol !e).quick (sc.side !e) (sc.way !e) x
    sc.put e (sc.side e) y.1 r y.2
def Scene.write (cfg : Cfg) (sc : Scene) (w : Write) : Scene :=
  let y := wrC cfg.size (cfg.pol w.ep).hold (sc.side w.ep) (sc.way w.ep) w.len w.mode
  { sc.put w.ep y.1 (sc.side !w.ep) y.2 (sc.way !w.ep) with made := sc.made + 1 }
def Scene.fire (cfg : Cfg) (sc : Scene) (s : Bool) : Scene :=
  if (sc.side s).corked = true then
    { sc.put s ((sc.side s).sent cfg.size (sc.side s).waiting) (sc.side !s) (sc.way s ++ [((sc.side s).waiting, (sc.side s).heard)]) (sc.way !s) with stalls := sc.stalls + 1 }
  else { sc.put s (sc.side s) ((sc.side !s).sent cfg.size 0) (sc.way s) (sc.way (!s) ++ [(0, (sc.side !s).heard)]) with stalls := sc.stalls + 1 }

/-- how many bytes an endpoint was given by these writes -/
def given : List Write → Bool → Int
  | [], _ => 0
  | w :: ws, e => (if w.ep = e then w.len else 0) + given ws e
theorem given_append : ∀ {a b : List Write} {e : Bool}, given (a ++ b) e = given a e + given b e
  | [], b, e => by simp [given]
  | w :: a, b, e => by
    show _ + given (a ++ b) e = _ + given a e + given b e
    rw [given_append]
    omega
def G (ws : List Write) (m : Nat) (e : Bool) : Int := given (ws.take m) e
theorem G_zero {ws : List Write} {e : Bool} : G ws 0 e = 0 := rfl
theorem G_succ {ws : List Write} {m : Nat} {w : Write} {e : Bool} (h : ws[m]? = some w) : G ws (m + 1) e = G ws m e + (if w.ep = e then w.len else 0) := by
  unfold G
  rw [List.take_add_one, h, given_append]
  simp [given]
/-- the endpoint of the last write made (of the first one, if none is made) -/
def spk (ws : List Write) (m : Nat) : Bool := ((ws[m - 1]?).map (·.ep)).getD false
theorem spk_succ {ws : List Write} {m : Nat} {w : Write} (h : ws[m]? = some w) : spk ws (m + 1) = w.ep := by
  unfold spk
  rw [Nat.add_sub_cancel, h]
  rfl
theorem spk_zero {ws : List Write} {w : Write} (h : ws[0]? = some w) : spk ws 0 = w.ep := by
  unfold spk
  rw [h]
  rfl

inductive Ev where
  | write
  | arr (e : Bool)
  | timer
  deriving DecidableEq

def heardAll (ws : List Write) (sc : Scene) (e : Bool) : Bool := decide ((sc.side e).heard = G ws sc.made !e)
def finished (ws : List Write) (sc : Scene) : Bool := decide (sc.made = ws.length) && (heardAll ws sc false && heardAll ws sc true)
def canWrite (ws : List Write) (sc : Scene) : Bool := match ws[sc.made]? with
  | some w => heardAll ws sc w.ep
  | none => false
def possible (ws : List Write) (sc : Scene) : List Ev :=
  if finished ws sc = true then [] else
  let found := (if sc.w0 ≠ [] then [Ev.arr false] else []) ++ (if sc.w1 ≠ [] then [Ev.arr true] else [])
  let found := if canWrite ws sc = true then Ev.write :: found else found
  if found = [] then [.timer] else found
def after (cfg : Cfg) (ws : List Write) (sc : Scene) : Ev → Scene
  | .write => match ws[sc.made]? with
    | some w => sc.write cfg w
    | none => sc
  | .arr e => sc.arrive cfg e
  | .timer => sc.fire cfg (spk ws sc.made)

/-! ### the state of a scene -/
def absS (cfg : Cfg) (sc : Scene) (s : Bool) : Parts := absP cfg.size (cfg.pol s).hold (cfg.pol !s).every (cfg.pol !s).quick (sc.side s) (sc.side !s) (sc.way s) (sc.way !s)
def qS (cfg : Cfg) (sc : Scene) (s : Bool) : Int := max 0 ((cfg.pol s).quick - (sc.side s).arrived)
def CoreS (cfg : Cfg) (ws : List Write) (sc : Scene) (s : Bool) (b : Int) : Prop :=
  Core cfg.size (cfg.pol s).hold (cfg.pol !s).every (cfg.pol !s).quick (sc.side s) (sc.side !s) (sc.way s) (sc.way !s) (G ws sc.made s) (G ws sc.made !s) b
structure J (cfg : Cfg) (ws : List Write) (sc : Scene) : Prop where
  le : sc.made ≤ ws.length
  core : ∃ b, CoreS cfg ws sc (spk ws sc.made) b ∧ (0 < sc.made → b < G ws sc.made (spk ws sc.made))
  zero : sc.made = 0 → sc.w0 = [] ∧ sc.w1 = [] ∧ sc.s0.heard = 0 ∧ sc.s1.heard = 0
structure WsOk (ws : List Write) : Prop where
  len : ∀ w ∈ ws, 1 ≤ w.len

def first (q : Int) : Parts := ⟨0, false, false, false, 0, q⟩
theorem ac_first (r : Rule) (q : Int) : ac r (first q) = first q := ac_id (by simp [first])

/-! ### the best of all orders -/
def opt (sg a b : Int) : Int := if sg * b < sg * a then b else a
def best (cfg : Cfg) (sg : Int) : List Write → Bool → Parts → Int → Int
  | [], s, p, _ => (at4 (cfg.rule s) p).1
  | w :: ws, s, p, q =>
    if w.ep = s then
      opt sg (opt sg (best cfg sg ws s (aw (cfg.rule s) p w.len w.mode) q) (best cfg sg ws s (aw (cfg.rule s) (ac (cfg.rule s) p) w.len w.mode) q)) (best cfg sg ws s (aw (cfg.rule s) (ac (cfg.rule s) (ac (cfg.rule s) p)) w.len w.mode) q)
    else (at4 (cfg.rule s) p).1 + best cfg sg ws (!s) (aw (cfg.rule !s) (first q) w.len w.mode) (at4 (cfg.rule s) p).2
def val (cfg : Cfg) (sg : Int) (ws : List Write) (sc : Scene) : Int := best cfg sg (ws.drop sc.made) (spk ws sc.made) (absS cfg sc (spk ws sc.made)) (qS cfg sc (spk ws sc.made))

theorem opt_le {sg a b : Int} (h : sg = 1 ∨ sg = -1) : sg * opt sg a b ≤ sg * a ∧ sg * opt sg a b ≤ sg * b := by
  unfold opt
  rcases h with rfl | rfl <;> split <;> omega
theorem opt_mem (sg a b : Int) : opt sg a b = a ∨ opt sg a b = b := by
  unfold opt
  split
  · exact Or.inr rfl
  · exact Or.inl rfl
theorem opt_self (sg a : Int) : opt sg a a = a := by
  unfold opt
  split <;> rfl
theorem opt_eq {sg a b : Int} (h : sg = 1 ∨ sg = -1) (hb : sg * a ≤ sg * b) : opt sg a b = a := by
  unfold opt
  rw [if_neg (by omega)]
theorem sg_inj {sg a b : Int} (h : sg = 1 ∨ sg = -1) (e : sg * a = sg * b) : a = b := by
  rcases h with rfl | rfl <;> omega

/-- a clearing takes nothing away from the best -/
theorem best_ac {cfg : Cfg} {sg : Int} (h : sg = 1 ∨ sg = -1) {ws : List Write} {s : Bool} {p : Parts} {q : Int} : sg * best cfg sg ws s p q ≤ sg * best cfg sg ws s (ac (cfg.rule s) p) q := by
  cases ws with
  | nil =>
    unfold best
    rw [at4_ac]
    exact Int.le_refl _
  | cons w ws =>
    unfold best
    split
    · rw [ac_3]
      have a := opt_le (a := opt sg (best cfg sg ws s (aw (cfg.rule s) p w.len w.mode) q) (best cfg sg ws s (aw (cfg.rule s) (ac (cfg.rule s) p) w.len w.mode) q)) (b := best cfg sg ws s (aw (cfg.rule s) (ac (cfg.rule s) (ac (cfg.rule s) p)) w.len w.mode) q) h
      have a2 := opt_le (a := best cfg sg ws s (aw (cfg.rule s) p w.len w.mode) q) (b := best cfg sg ws s (aw (cfg.rule s) (ac (cfg.rule s) p) w.len w.mode) q) h
      rcases opt_mem sg (opt sg (best cfg sg ws s (aw (cfg.rule s) (ac (cfg.rule s) p) w.len w.mode) q) (best cfg sg ws s (aw (cfg.rule s) (ac (cfg.rule s) (ac (cfg.rule s) p)) w.len w.mode) q)) (best cfg sg ws s (aw (cfg.rule s) (ac (cfg.rule s) (ac (cfg.rule s) p)) w.len w.mode) q) with e | e
      · rw [e]
        rcases opt_mem sg (best cfg sg ws s (aw (cfg.rule s) (ac (cfg.rule s) p) w.len w.mode) q) (best cfg sg ws s (aw (cfg.rule s) (ac (cfg.rule s) (ac (cfg.rule s) p)) w.len w.mode) q) with e2 | e2
        · rw [e2]
          omega
        · rw [e2]
          omega
      · rw [e]
        omega
    · rw [at4_ac]
      exact Int.le_refl _
/-- .. and where the next write is not of this turn, nothing changes -/
theorem best_ac_eq {cfg : Cfg} {sg : Int} {ws : List Write} {s : Bool} {p : Parts} {q : Int} (hn : ∀ w, ws[0]? = some w → w.ep ≠ s) : best cfg sg ws s (ac (cfg.rule s) p) q = best cfg sg ws s p q := by
  cases ws with
  | nil =>
    unfold best
    rw [at4_ac]
  | cons w ws =>
    unfold best
    rw [if_neg (hn w rfl), if_neg (hn w rfl), at4_ac]
/-- the best is to write now, or it is the same behind a clearing -/
theorem best_now {cfg : Cfg} {sg : Int} (h : sg = 1 ∨ sg = -1) {w : Write} {ws : List Write} {s : Bool} {p : Parts} {q : Int} (hw : w.ep = s) :
    (sg * best cfg sg (w :: ws) s p q ≤ sg * best cfg sg ws s (aw (cfg.rule s) p w.len w.mode) q) ∧
    (best cfg sg (w :: ws) s p q = best cfg sg ws s (aw (cfg.rule s) p w.len w.mode) q ∨ (ac (cfg.rule s) p ≠ p ∧ best cfg sg (w :: ws) s (ac (cfg.rule s) p) q = best cfg sg (w :: ws) s p q)) := by
  by_cases hp : ac (cfg.rule s) p = p
  · have e : best cfg sg (w :: ws) s p q = best cfg sg ws s (aw (cfg.rule s) p w.len w.mode) q := by
      rw [show best cfg sg (w :: ws) s p q = if w.ep = s then
        opt sg (opt sg (best cfg sg ws s (aw (cfg.rule s) p w.len w.mode) q) (best cfg sg ws s (aw (cfg.rule s) (ac (cfg.rule s) p) w.len w.mode) q)) (best cfg sg ws s (aw (cfg.rule s) (ac (cfg.rule s) (ac (cfg.rule s) p)) w.len w.mode) q)
        else (at4 (cfg.rule s) p).1 + best cfg sg ws (!s) (aw (cfg.rule !s) (first q) w.len w.mode) (at4 (cfg.rule s) p).2 from rfl, if_pos hw, hp, hp, opt_self, opt_self]
    exact ⟨by rw [e]; exact Int.le_refl _, Or.inl e⟩
  · have u0 : best cfg sg (w :: ws) s p q =
        opt sg (opt sg (best cfg sg ws s (aw (cfg.rule s) p w.len w.mode) q) (best cfg sg ws s (aw (cfg.rule s) (ac (cfg.rule s) p) w.len w.mode) q)) (best cfg sg ws s (aw (cfg.rule s) (ac (cfg.rule s) (ac (cfg.rule s) p)) w.len w.mode) q) := by
      show (if w.ep = s then _ else _) = _
      rw [if_pos hw]
    have u1 : best cfg sg (w :: ws) s (ac (cfg.rule s) p) q = opt sg (best cfg sg ws s (aw (cfg.rule s) (ac (cfg.rule s) p) w.len w.mode) q) (best cfg sg ws s (aw (cfg.rule s) (ac (cfg.rule s) (ac (cfg.rule s) p)) w.len w.mode) q) := by
      show (if w.ep = s then _ else _) = _
      rw [if_pos hw, ac_3]
      generalize best cfg sg ws s (aw (cfg.rule s) (ac (cfg.rule s) p) w.len w.mode) q = x
      generalize best cfg sg ws s (aw (cfg.rule s) (ac (cfg.rule s) (ac (cfg.rule s) p)) w.len w.mode) q = y
      rcases opt_mem sg x y with e | e
      · rw [e]
        exact e
      · rw [e, opt_self]
    rw [u0, u1]
    generalize best cfg sg ws s (aw (cfg.rule s) p w.len w.mode) q = v
    generalize best cfg sg ws s (aw (cfg.rule s) (ac (cfg.rule s) p) w.len w.mode) q = x
    generalize best cfg sg ws s (aw (cfg.rule s) (ac (cfg.rule s) (ac (cfg.rule s) p)) w.len w.mode) q = y
    unfold opt
    rcases h with rfl | rfl
    · refine ⟨?_, ?_⟩
      · repeat' split
        all_goals omega
      · by_cases c : v ≤ x ∧ v ≤ y
        · left
          rw [if_neg (by omega), if_neg (by omega)]
        · right
          refine ⟨hp, ?_⟩
          repeat' split
          all_goals omega
    · refine ⟨?_, ?_⟩
      · repeat' split
        all_goals omega
      · by_cases c : x ≤ v ∧ y ≤ v
        · left
          rw [if_neg (by omega), if_neg (by omega)]
        · right
          refine ⟨hp, ?_⟩
          repeat' split
          all_goals omega

/-! ### the measure -/
def wt : Way → Int
  | [] => 0
  | x :: r => (if x.1 = 0 then 1 else 2) + wt r
theorem wt_append : ∀ {a b : Way}, wt (a ++ b) = wt a + wt b
  | [], b => by simp [wt]
  | x :: a, b => by
    show _ + wt (a ++ b) = _ + wt a + wt b
    rw [wt_append]
    omega
theorem wt_nn : ∀ a : Way, 0 ≤ wt a
  | [] => Int.le_refl _
  | x :: a => by
    have := wt_nn a
    show 0 ≤ (if x.1 = 0 then (1 : Int) else 2) + wt a
    split <;> omega
def b2 (b : Bool) : Int := if b = true then 2 else 0
theorem b2_le (b : Bool) : 0 ≤ b2 b ∧ b2 b ≤ 2 := by
  unfold b2
  split <;> omega
def p5 (x : Int) : Int := if 0 < x then 5 else 0
theorem p5_pos {x : Int} (h : 0 < x) : p5 x = 5 := if_pos h
theorem p5_neg {x : Int} (h : ¬ 0 < x) : p5 x = 0 := if_neg h
theorem p5_le (x : Int) : 0 ≤ p5 x ∧ p5 x ≤ 5 := by
  unfold p5
  split <;> omega
def fut (size : Int) : List Write → Int
  | [] => 0
  | w :: ws => (w.len / size + 1) + fut size ws
theorem fut_nn {size : Int} (hz : 1 ≤ size) : ∀ {ws : List Write}, (∀ w ∈ ws, 1 ≤ w.len) → 0 ≤ fut size ws
  | [], _ => Int.le_refl _
  | w :: ws, h => by
    have a := h w List.mem_cons_self
    have b := fut_nn hz (ws := ws) fun x hx => h x (List.mem_cons_of_mem _ hx)
    have c := Int.ediv_nonneg (a := w.len) (b := size) (by omega) (by omega)
    show 0 ≤ (w.len / size + 1) + fut size ws
    omega
/-- of one turn's two sides, with what is still to come -/
def mC (size : Int) (hold : Hold) (every quick : Int) (S T : Side) (A B : Way) : Int := p5 S.waiting + wt A + wt B + b2 (absP size hold every quick S T A B).stuck
def mu (cfg : Cfg) (ws : List Write) (sc : Scene) : Int :=
  5 * fut cfg.size (ws.drop sc.made) + ((ws.length : Int) - sc.made) + mC cfg.size (cfg.pol (spk ws sc.made)).hold (cfg.pol !(spk ws sc.made)).every (cfg.pol !(spk ws sc.made)).quick (sc.side (spk ws sc.made)) (sc.side !(spk ws sc.made)) (sc.way (spk ws sc.made)) (sc.way !(spk ws sc.made))

section
variable {size every quick Gs Gt b : Int} {hold : Hold} {S T : Side} {A B : Way}
theorem mC_nn : 0 ≤ mC size hold every quick S T A B := by
  unfold mC
  have := p5_le S.waiting
  have := wt_nn A
  have := wt_nn B
  have := b2_le (absP size hold every quick S T A B).stuck
  omega
theorem mC_arrA {x : Int × Int} : mC size hold every quick S (arrA size every quick T B x).1 A (arrA size every quick T B x).2 < mC size hold every quick S T (x :: A) B := by
  unfold mC
  rw [arrA_abs]
  have e : wt (x :: A) = (if x.1 = 0 then 1 else 2) + wt A := rfl
  rw [e]
  unfold arrA
  simp only
  by_cases h : x.1 = 0
  · rw [if_pos h, if_pos h]
    simp only
    omega
  · rw [if_neg h, if_neg h]
    split
    · simp only [wt_append]
      have : wt [(0, T.heard + x.1)] = 1 := rfl
      omega
    · simp only
      omega
theorem mC_arrB {x : Int × Int} (C : Core size hold every quick S T A (x :: B) Gs Gt b) : mC size hold every quick (arrB size hold S A x).1 T (arrB size hold S A x).2 B < mC size hold every quick S T A (x :: B) := by
  have x0 := C.bcnt x List.mem_cons_self
  have e : wt (x :: B) = 1 + wt B := by
    show (if x.1 = 0 then (1 : Int) else 2) + wt B = _
    rw [if_pos x0]
  unfold mC
  rw [e]
  by_cases hc : 0 < S.waiting ∧ S.corked = false ∧ permitsAt hold (max S.covered x.2) S.out S.mark = true
  · rw [arrB_pos hc]
    simp only [wt_append]
    have e1 : wt [(S.waiting, S.heard)] ≤ 2 := by
      show (if S.waiting = 0 then (1 : Int) else 2) + 0 ≤ 2
      split <;> omega
    have e2 : (({ S with covered := max S.covered x.2 } : Side).sent size S.waiting).waiting = 0 := by simp [Side.sent]
    rw [e2, p5_pos hc.1, p5_neg (by omega)]
    have a1 := b2_le (absP size hold every quick (({ S with covered := max S.covered x.2 } : Side).sent size S.waiting) T (A ++ [(S.waiting, S.heard)]) B).stuck
    have a2 := b2_le (absP size hold every quick S T A (x :: B)).stuck
    omega
  · rw [arrB_neg hc]
    have e1 : (absP size hold every quick { S with covered := max S.covered x.2 } T A B).stuck = (absP size hold every quick S T A (x :: B)).stuck := rfl
    simp only [e1]
    omega
theorem seg_le {w len size : Int} (hz : 1 ≤ size) (h0 : 0 ≤ w) (h1 : w < size) : 5 * ((w + len) / size) + p5 ((w + len) % size) ≤ 5 * (len / size + 1) + p5 w := by
  have a := Int.emod_add_mul_ediv len size
  have a0 := Int.emod_nonneg len (show size ≠ 0 by omega)
  have a1 := Int.emod_lt_of_pos len (show 0 < size by omega)
  have key : ∀ (x : Int) (k : Int), 0 ≤ x → x < size → (x + size * k) / size = k ∧ (x + size * k) % size = x := by
    intro x k hx hx'
    constructor
    · rw [Int.add_mul_ediv_left _ _ (show size ≠ 0 by omega), Int.ediv_eq_zero_of_lt hx hx']
      omega
    · rw [Int.add_mul_emod_self_left]
      exact Int.emod_eq_of_lt hx hx'
  by_cases c : w + len % size < size
  · have e : w + len = (w + len % size) + size * (len / size) := by omega
    obtain ⟨k1, k2⟩ := key (w + len % size) (len / size) (by omega) c
    rw [← e] at k1 k2
    rw [k1, k2]
    have := p5_le (w + len % size)
    have := p5_le w
    omega
  · have e : w + len = (w + len % size - size) + size * (len / size + 1) := by
      rw [Int.mul_add, Int.mul_one]
      omega
    obtain ⟨k1, k2⟩ := key (w + len % size - size) (len / size + 1) (by omega) (by omega)
    rw [← e] at k1 k2
    rw [k1, k2, p5_pos (show 0 < w by omega)]
    have := p5_le (w + len % size - size)
    omega
theorem wt_full (size : Int) : ∀ (n : Nat) (x : Side × Way), wt (fullN size n x).2 ≤ wt x.2 + 2 * n
  | 0, x => by show wt x.2 ≤ _; omega
  | n + 1, x => by
    have ih := wt_full size n x
    show wt ((fullN size n x).2 ++ [(size, (fullN size n x).1.heard)]) ≤ _
    rw [wt_append]
    have : wt [(size, (fullN size n x).1.heard)] ≤ 2 := by
      show (if size = 0 then (1 : Int) else 2) + 0 ≤ 2
      split <;> omega
    omega
theorem mC_wr (hz : 1 ≤ size) (he : 0 ≤ every) {len : Int} (hl : 1 ≤ len) {mode : Mode} (C : Core size hold every quick S T A B Gs Gt b) :
    mC size hold every quick (wrC size hold S A len mode).1 T (wrC size hold S A len mode).2 B ≤ 5 * (len / size + 1) + mC size hold every quick S T A B := by
  have w0 := C.w0
  have w1 := C.w1
  have Cz' : Core size hold every quick (z { S with waiting := S.waiting + len, corked := false }) T A B ({ S with waiting := S.waiting + len, corked := false } : Side).out Gt b := C.zed
  have hn : 0 ≤ (S.waiting + len) / size := Int.ediv_nonneg (by omega) (by omega)
  have seg := seg_le (len := len) hz w0 w1
  obtain ⟨c1, c2, c3, c4, c5, c6, c7, _⟩ := fullN_ok hz he Cz' ((S.waiting + len) / size).toNat
  have hw := wt_full size ((S.waiting + len) / size).toNat ({ S with waiting := S.waiting + len, corked := false }, A)
  rw [Int.toNat_of_nonneg hn] at c2 hw
  have em : S.waiting + len - (S.waiting + len) / size * size = (S.waiting + len) % size := by
    have := Int.emod_add_ediv_mul (S.waiting + len) size
    omega
  simp only at c2
  rw [em] at c2
  -- nothing is sent in full: the state is as it was
  have stay : (S.waiting + len) / size = 0 → fullN size ((S.waiting + len) / size).toNat ({ S with waiting := S.waiting + len, corked := false }, A) = ({ S with waiting := S.waiting + len, corked := false }, A) := by
    intro e
    rw [e]
    rfl
  unfold mC wrC
  simp only
  generalize hx : fullN size ((S.waiting + len) / size).toNat ({ S with waiting := S.waiting + len, corked := false }, A) = x at *
  obtain ⟨S2, A2⟩ := x
  simp only at c2 hw ⊢
  have sb := b2_le (absP size hold every quick S T A B).stuck
  have same : (S.waiting + len) / size = 0 → ∀ k wv, (absP size hold every quick { S2 with waiting := wv, corked := k } T A2 B).stuck = (absP size hold every quick S T A B).stuck := by
    intro e k wv
    have := stay e
    simp only [Prod.mk.injEq] at this
    obtain ⟨rfl, rfl⟩ := this
    rfl
  have fin : ∀ k wv : _, p5 wv + wt A2 + wt B + b2 (absP size hold every quick { S2 with waiting := wv, corked := k } T A2 B).stuck ≤ p5 wv + 5 * ((S.waiting + len) / size) + wt A + wt B + b2 (absP size hold every quick S T A B).stuck := by
    intro k wv
    by_cases e : (S.waiting + len) / size = 0
    · rw [same e k wv]
      omega
    · have := b2_le (absP size hold every quick { S2 with waiting := wv, corked := k } T A2 B).stuck
      omega
  by_cases hr : S2.waiting = 0
  · rw [if_pos hr]
    have f : p5 S2.waiting + wt A2 + wt B + b2 (absP size hold every quick S2 T A2 B).stuck ≤ p5 S2.waiting + 5 * ((S.waiting + len) / size) + wt A + wt B + b2 (absP size hold every quick S T A B).stuck := fin S2.corked S2.waiting
    simp only
    have r0 : p5 S2.waiting = 0 := p5_neg (by omega)
    have := p5_le ((S.waiting + len) % size)
    omega
  · rw [if_neg hr]
    by_cases hm : mode = .more
    · rw [if_pos hm]
      have f := fin true S2.waiting
      simp only
      have e : ({ S2 with waiting := S2.waiting, corked := true } : Side) = { S2 with corked := true } := rfl
      rw [e] at f
      rw [← c2] at seg
      omega
    · rw [if_neg hm]
      by_cases hp : mode = .push ∨ S2.permits hold = true
      · rw [if_pos hp]
        simp only [wt_append]
        have e2 : (S2.sent size S2.waiting).waiting = 0 := by simp [Side.sent]
        have e1 : wt [(S2.waiting, S2.heard)] ≤ 2 := by
          show (if S2.waiting = 0 then (1 : Int) else 2) + 0 ≤ 2
          split <;> omega
        have a1 := b2_le (absP size hold every quick (S2.sent size S2.waiting) T (A2 ++ [(S2.waiting, S2.heard)]) B).stuck
        have m0 := Int.emod_nonneg (S.waiting + len) (show size ≠ 0 by omega)
        rw [p5_pos (show 0 < (S.waiting + len) % size by omega)] at seg
        rw [e2, p5_neg (show ¬ (0 : Int) < 0 by decide)]
        by_cases e : (S.waiting + len) / size = 0
        · omega
        · omega
      · rw [if_neg hp]
        have f : p5 S2.waiting + wt A2 + wt B + b2 (absP size hold every quick S2 T A2 B).stuck ≤ p5 S2.waiting + 5 * ((S.waiting + len) / size) + wt A + wt B + b2 (absP size hold every quick S T A B).stuck := fin S2.corked S2.waiting
        rw [← c2] at seg
        simp only
        omega
end
end LW

/-! Latewords, the plain part 5: one event of a scene. -/
namespace LW

section
variable {cfg : Cfg} {ws : List Write} {sc : Scene}

theorem spk_flip {a b : Bool} (h : a ≠ b) : a = !b := by cases a <;> cases b <;> simp_all

/-- what an arrival leaves -/
structure ArrOk (cfg : Cfg) (ws : List Write) (sc sc' : Scene) : Prop where
  made : sc'.made = sc.made
  stalls : sc'.stalls = sc.stalls
  j : J cfg ws sc'
  mu : mu cfg ws sc' < mu cfg ws sc
  q : qS cfg sc' (spk ws sc.made) = qS cfg sc (spk ws sc.made)
  abs : absS cfg sc' (spk ws sc.made) = absS cfg sc (spk ws sc.made) ∨
    ((absS cfg sc (spk ws sc.made)).blocked = true ∧ (absS cfg sc (spk ws sc.made)).stuck = false ∧ absS cfg sc' (spk ws sc.made) = ac (cfg.rule (spk ws sc.made)) (absS cfg sc (spk ws sc.made)))

theorem J.mpos (j : J cfg ws sc) {e : Bool} (h : sc.way e ≠ []) : 0 < sc.made := by
  rcases Nat.eq_zero_or_pos sc.made with q | q
  · obtain ⟨a, b, _⟩ := j.zero q
    cases e
    · exact absurd a h
    · exact absurd b h
  · exact q

/-- from the speaker -/
theorem arrive_s_eq {x : Int × Int} {r : Way} (j : J cfg ws sc) (h : sc.way (spk ws sc.made) = x :: r) :
    sc.arrive cfg (spk ws sc.made) = sc.put (spk ws sc.made) (sc.side (spk ws sc.made)) (arrA cfg.size (cfg.pol !(spk ws sc.made)).every (cfg.pol !(spk ws sc.made)).quick (sc.side !(spk ws sc.made)) (sc.way !(spk ws sc.made)) x).1 r
      (arrA cfg.size (cfg.pol !(spk ws sc.made)).every (cfg.pol !(spk ws sc.made)).quick (sc.side !(spk ws sc.made)) (sc.way !(spk ws sc.made)) x).2 := by
  obtain ⟨b, C, _⟩ := j.core
  unfold Scene.arrive
  rw [h]
  simp only [recv_A C.twait]
theorem arrive_s (j : J cfg ws sc) (h : sc.way (spk ws sc.made) ≠ []) : ArrOk cfg ws sc (sc.arrive cfg (spk ws sc.made)) ∧ absS cfg (sc.arrive cfg (spk ws sc.made)) (spk ws sc.made) = absS cfg sc (spk ws sc.made) := by
  have mp := j.mpos h
  obtain ⟨b, C, hb⟩ := j.core
  obtain ⟨x, r, e⟩ : ∃ x r, sc.way (spk ws sc.made) = x :: r := by
    cases q : sc.way (spk ws sc.made) with
    | nil => exact absurd q h
    | cons x r => exact ⟨x, r, rfl⟩
  rw [arrive_s_eq j e]
  generalize hs : spk ws sc.made = s at *
  unfold CoreS at C
  rw [e] at C
  have D := arrA_core C
  have ea : absS cfg (sc.put s (sc.side s) (arrA cfg.size (cfg.pol !s).every (cfg.pol !s).quick (sc.side !s) (sc.way !s) x).1 r (arrA cfg.size (cfg.pol !s).every (cfg.pol !s).quick (sc.side !s) (sc.way !s) x).2) s = absS cfg sc s := by
    unfold absS
    simp only [put_side, put_side', put_way, put_way', e, arrA_abs]
  refine ⟨⟨by simp, by simp, ⟨by simpa using j.le, ⟨b, ?_, ?_⟩, ?_⟩, ?_, ?_, Or.inl (by rw [hs]; exact ea)⟩, ea⟩
  · unfold CoreS
    simp only [put_made, hs, put_side, put_side', put_way, put_way']
    exact D
  · simpa [hs] using hb
  · intro q
    simp at q
    omega
  · unfold mu
    simp only [put_made, hs, put_side, put_side', put_way, put_way', e]
    have := mC_arrA (size := cfg.size) (hold := (cfg.pol s).hold) (every := (cfg.pol !s).every) (quick := (cfg.pol !s).quick) (S := sc.side s) (T := sc.side !s) (A := r) (B := sc.way !s) (x := x)
    omega
  · unfold qS
    simp [hs]
/-- from the listener -/
theorem arrive_t_eq {x : Int × Int} {r : Way} (j : J cfg ws sc) (h : sc.way (!spk ws sc.made) = x :: r) :
    sc.arrive cfg (!spk ws sc.made) = sc.put (spk ws sc.made) (arrB cfg.size (cfg.pol (spk ws sc.made)).hold (sc.side (spk ws sc.made)) (sc.way (spk ws sc.made)) x).1 (sc.side !(spk ws sc.made))
      (arrB cfg.size (cfg.pol (spk ws sc.made)).hold (sc.side (spk ws sc.made)) (sc.way (spk ws sc.made)) x).2 r := by
  obtain ⟨b, C, _⟩ := j.core
  have x0 : x.1 = 0 := C.bcnt x (by rw [h]; exact List.mem_cons_self)
  unfold Scene.arrive
  rw [h]
  simp only [recv_B x0, Bool.not_not]
  rw [put_flip]
theorem arrive_t (j : J cfg ws sc) (h : sc.way (!spk ws sc.made) ≠ []) : ArrOk cfg ws sc (sc.arrive cfg (!spk ws sc.made)) := by
  have mp := j.mpos h
  obtain ⟨b, C, hb⟩ := j.core
  obtain ⟨x, r, e⟩ : ∃ x r, sc.way (!spk ws sc.made) = x :: r := by
    cases q : sc.way (!spk ws sc.made) with
    | nil => exact absurd q h
    | cons x r => exact ⟨x, r, rfl⟩
  rw [arrive_t_eq j e]
  generalize hs : spk ws sc.made = s at *
  unfold CoreS at C
  rw [e] at C
  obtain ⟨D, ho⟩ := arrB_ok C
  have ar : (arrB cfg.size (cfg.pol s).hold (sc.side s) (sc.way s) x).1.arrived = (sc.side s).arrived := by
    unfold arrB
    simp only
    split <;> rfl
  refine ⟨by simp, by simp, ⟨by simpa using j.le, ⟨b, ?_, ?_⟩, ?_⟩, ?_, ?_, ?_⟩
  · unfold CoreS
    simp only [put_made, hs, put_side, put_side', put_way, put_way']
    exact D
  · simpa [hs] using hb
  · intro q
    simp at q
    omega
  · unfold mu
    simp only [put_made, hs, put_side, put_side', put_way, put_way', e]
    have := mC_arrB C
    omega
  · unfold qS
    simp only [hs, put_side, ar]
  · rw [hs]
    unfold absS
    simp only [put_side, put_side', put_way, put_way', e]
    exact ho
theorem arrive_any (j : J cfg ws sc) {e : Bool} (h : sc.way e ≠ []) : ArrOk cfg ws sc (sc.arrive cfg e) := by
  by_cases q : e = spk ws sc.made
  · subst q
    exact (arrive_s j h).1
  · have := spk_flip q
    subst this
    exact arrive_t j h

/-! ### the write -/
structure WrOk (cfg : Cfg) (ws : List Write) (sc sc' : Scene) (w : Write) : Prop where
  made : sc'.made = sc.made + 1
  stalls : sc'.stalls = sc.stalls
  j : J cfg ws sc'
  mu : mu cfg ws sc' < mu cfg ws sc
  spk : spk ws sc'.made = w.ep
  same : w.ep = LW.spk ws sc.made → absS cfg sc' w.ep = aw (cfg.rule w.ep) (absS cfg sc w.ep) w.len w.mode ∧ qS cfg sc' w.ep = qS cfg sc w.ep
  other : w.ep ≠ LW.spk ws sc.made → at4 (cfg.rule (LW.spk ws sc.made)) (absS cfg sc (LW.spk ws sc.made)) = (0, qS cfg sc' w.ep) ∧ absS cfg sc' w.ep = aw (cfg.rule w.ep) (first (qS cfg sc (LW.spk ws sc.made))) w.len w.mode ∧ w.ep = !(LW.spk ws sc.made)

theorem write_core {w : Write} {s : Bool} {b : Int} (ok : cfg.Ok) (hw : ws[sc.made]? = some w) (hl : 1 ≤ w.len) (hs : w.ep = s) (C : CoreS cfg ws sc s b) :
    CoreS cfg ws (sc.write cfg w) s b ∧ absS cfg (sc.write cfg w) s = aw (cfg.rule s) (absS cfg sc s) w.len w.mode ∧ qS cfg (sc.write cfg w) s = qS cfg sc s ∧ b < G ws (sc.made + 1) s ∧
    mC cfg.size (cfg.pol s).hold (cfg.pol !s).every (cfg.pol !s).quick ((sc.write cfg w).side s) ((sc.write cfg w).side !s) ((sc.write cfg w).way s) ((sc.write cfg w).way !s) ≤
      5 * (w.len / cfg.size + 1) + mC cfg.size (cfg.pol s).hold (cfg.pol !s).every (cfg.pol !s).quick (sc.side s) (sc.side !s) (sc.way s) (sc.way !s) := by
  subst hs
  have G1 : G ws (sc.made + 1) w.ep = G ws sc.made w.ep + w.len := by rw [G_succ hw, if_pos rfl]
  have G2 : G ws (sc.made + 1) (!w.ep) = G ws sc.made (!w.ep) := by
    rw [G_succ hw, if_neg (by cases w.ep <;> simp)]
    omega
  obtain ⟨c1, c2, c3, c4⟩ := wrC_ok ok.size (ok.every _) hl (mode := w.mode) C
  have m := mC_wr ok.size (ok.every _) hl (mode := w.mode) C
  have e1 : (sc.write cfg w).side w.ep = (wrC cfg.size (cfg.pol w.ep).hold (sc.side w.ep) (sc.way w.ep) w.len w.mode).1 := by
    unfold Scene.write
    cases w.ep <;> rfl
  have e2 : (sc.write cfg w).side (!w.ep) = sc.side !w.ep := by
    unfold Scene.write
    cases w.ep <;> rfl
  have e3 : (sc.write cfg w).way w.ep = (wrC cfg.size (cfg.pol w.ep).hold (sc.side w.ep) (sc.way w.ep) w.len w.mode).2 := by
    unfold Scene.write
    cases w.ep <;> rfl
  have e4 : (sc.write cfg w).way (!w.ep) = sc.way !w.ep := by
    unfold Scene.write
    cases w.ep <;> rfl
  have e5 : (sc.write cfg w).made = sc.made + 1 := rfl
  refine ⟨?_, ?_, ?_, ?_, ?_⟩
  · unfold CoreS
    rw [e1, e2, e3, e4, e5, G1, G2]
    exact c1
  · unfold absS
    rw [e1, e2, e3, e4]
    exact c2
  · unfold qS
    rw [e1, c3]
  · rw [G1]
    exact c4
  · rw [e1, e2, e3, e4]
    exact m

theorem fut_drop {size : Int} {w : Write} {m : Nat} (hw : ws[m]? = some w) : fut size (ws.drop m) = (w.len / size + 1) + fut size (ws.drop (m + 1)) := by
  obtain ⟨h1, h2⟩ := List.getElem?_eq_some_iff.mp hw
  rw [List.drop_eq_getElem_cons h1, h2]
  rfl

theorem write_ok (ok : cfg.Ok) (wok : WsOk ws) (j : J cfg ws sc) {w : Write} (hw : ws[sc.made]? = some w) (hh : heardAll ws sc w.ep = true) : WrOk cfg ws sc (sc.write cfg w) w := by
  obtain ⟨hm, hwe⟩ := List.getElem?_eq_some_iff.mp hw
  have hl : 1 ≤ w.len := wok.len w (by rw [← hwe]; exact List.getElem_mem hm)
  obtain ⟨b, C, hb⟩ := j.core
  have sp : spk ws (sc.write cfg w).made = w.ep := spk_succ hw
  have fd := fut_drop (size := cfg.size) hw
  by_cases q : w.ep = spk ws sc.made
  · obtain ⟨c1, c2, c3, c4, c5⟩ := write_core ok hw hl q C
    refine ⟨rfl, by unfold Scene.write; simp, ⟨hm, ⟨b, ?_, ?_⟩, fun z => nomatch z⟩, ?_, sp, fun _ => ?_, fun n => absurd q n⟩
    · rw [sp, q]
      exact c1
    · intro _
      rw [sp, q]
      exact c4
    · unfold mu
      rw [sp, q]
      have e : (sc.write cfg w).made = sc.made + 1 := rfl
      rw [e, fd]
      omega
    · rw [q]
      exact ⟨c2, c3⟩
  · have mp : 0 < sc.made := by
      rcases Nat.eq_zero_or_pos sc.made with z | z
      · exfalso
        rw [z] at hw q
        rw [spk_zero hw] at q
        exact q rfl
      · exact z
    have hb' := hb mp
    have qf := spk_flip q
    generalize hs : spk ws sc.made = s at *
    subst hs
    have hT : (sc.side !(spk ws sc.made)).heard = G ws sc.made (spk ws sc.made) := by
      unfold heardAll at hh
      rw [qf] at hh
      simpa using hh
    obtain ⟨a1, a2, a3, a4, a5⟩ := switch_ok (every' := (cfg.pol (spk ws sc.made)).every) (quick' := (cfg.pol (spk ws sc.made)).quick) (hold' := (cfg.pol !(spk ws sc.made)).hold) (ok.every _) C hb' hT
    have C' : CoreS cfg ws sc (!(spk ws sc.made)) (G ws sc.made !(spk ws sc.made)) := by
      unfold CoreS
      rw [Bool.not_not, a1]
      exact a2
    obtain ⟨c1, c2, c3, c4, c5⟩ := write_core ok hw hl qf C'
    have ab : absS cfg sc (!(spk ws sc.made)) = first (qS cfg sc (spk ws sc.made)) := by
      unfold absS
      rw [Bool.not_not, a1]
      exact a3
    have at' : at4 (cfg.rule (spk ws sc.made)) (absS cfg sc (spk ws sc.made)) = (0, qS cfg sc (!(spk ws sc.made))) := by
      have r0 : (absS cfg sc (spk ws sc.made)).rest = 0 := a4
      rw [at4_rest0 r0]
      have r1 : (absS cfg sc (spk ws sc.made)).quick = qS cfg sc (!(spk ws sc.made)) := a5
      rw [r1]
    refine ⟨rfl, by unfold Scene.write; simp, ⟨hm, ⟨G ws sc.made !(spk ws sc.made), ?_, ?_⟩, fun z => nomatch z⟩, ?_, sp, fun n => absurd n q, fun _ => ⟨?_, ?_, qf⟩⟩
    · rw [sp, qf]
      exact c1
    · intro _
      rw [sp, qf]
      exact c4
    · unfold mu
      rw [sp, qf]
      have e : (sc.write cfg w).made = sc.made + 1 := rfl
      rw [e, fd]
      -- the roles change: nothing is added
      have sw : mC cfg.size (cfg.pol !(spk ws sc.made)).hold (cfg.pol !!(spk ws sc.made)).every (cfg.pol !!(spk ws sc.made)).quick (sc.side !(spk ws sc.made)) (sc.side !!(spk ws sc.made)) (sc.way !(spk ws sc.made)) (sc.way !!(spk ws sc.made)) ≤
          mC cfg.size (cfg.pol (spk ws sc.made)).hold (cfg.pol !(spk ws sc.made)).every (cfg.pol !(spk ws sc.made)).quick (sc.side (spk ws sc.made)) (sc.side !(spk ws sc.made)) (sc.way (spk ws sc.made)) (sc.way !(spk ws sc.made)) := by
        have st : (absP cfg.size (cfg.pol !(spk ws sc.made)).hold (cfg.pol !!(spk ws sc.made)).every (cfg.pol !!(spk ws sc.made)).quick (sc.side !(spk ws sc.made)) (sc.side !!(spk ws sc.made)) (sc.way !(spk ws sc.made)) (sc.way !!(spk ws sc.made))).stuck = false := by
          have := congrArg Parts.stuck ab
          exact this
        unfold mC
        rw [st]
        have h1 := C.twait
        rw [h1]
        have := b2_le (absP cfg.size (cfg.pol (spk ws sc.made)).hold (cfg.pol !(spk ws sc.made)).every (cfg.pol !(spk ws sc.made)).quick (sc.side (spk ws sc.made)) (sc.side !(spk ws sc.made)) (sc.way (spk ws sc.made)) (sc.way !(spk ws sc.made))).stuck
        have := p5_le (sc.side (spk ws sc.made)).waiting
        have z : p5 0 = 0 := rfl
        have z2 : b2 false = 0 := rfl
        rw [Bool.not_not]
        omega
      omega
    · rw [at', qf, c3]
    · rw [qf, c2, ab]

/-! ### the timer -/
structure FireOk (cfg : Cfg) (ws : List Write) (sc sc' : Scene) : Prop where
  made : sc'.made = sc.made
  stalls : sc'.stalls = sc.stalls + 1
  j : J cfg ws sc'
  mu : mu cfg ws sc' < mu cfg ws sc
  q : qS cfg sc' (spk ws sc.made) = qS cfg sc (spk ws sc.made)
  at1 : (at4 (cfg.rule (spk ws sc.made)) (absS cfg sc (spk ws sc.made))).1 = 1
  at0 : (at4 (cfg.rule (spk ws sc.made)) (absS cfg sc' (spk ws sc.made))).1 = 0
  atq : (at4 (cfg.rule (spk ws sc.made)) (absS cfg sc' (spk ws sc.made))).2 = (at4 (cfg.rule (spk ws sc.made)) (absS cfg sc (spk ws sc.made))).2
  turn : ∀ w, ws[sc.made]? = some w → w.ep ≠ spk ws sc.made

/-- what the timer needs -/
structure Dead (ws : List Write) (sc : Scene) : Prop where
  fin : finished ws sc = false
  w0 : sc.w0 = []
  w1 : sc.w1 = []
  wr : canWrite ws sc = false
theorem dead_iff : possible ws sc = [.timer] ↔ Dead ws sc := by
  constructor
  · intro h
    unfold possible at h
    by_cases f : finished ws sc = true
    · rw [if_pos f] at h
      cases h
    · rw [if_neg f] at h
      simp only at h
      by_cases c : canWrite ws sc = true
      · rw [if_pos c] at h
        simp at h
      · rw [if_neg c] at h
        by_cases a : sc.w0 = [] <;> by_cases b : sc.w1 = [] <;> simp [a, b] at h
        exact ⟨by simpa using f, a, b, by simpa using c⟩
  · intro d
    unfold possible
    simp [d.fin, d.w0, d.w1, d.wr]

theorem fire_ok (ok : cfg.Ok) (wok : WsOk ws) (j : J cfg ws sc) (d : Dead ws sc) : FireOk cfg ws sc (sc.fire cfg (spk ws sc.made)) := by
  obtain ⟨b, C, hb⟩ := j.core
  have fin := d.fin
  have wr := d.wr
  have wn : ∀ e, sc.way e = [] := by
    intro e
    cases e
    · exact d.w0
    · exact d.w1
  have hS : heardAll ws sc (spk ws sc.made) = true := by
    unfold heardAll
    rw [C.sheard]
    simp
  -- a write was made, all of the turn's
  have turn : ∀ w, ws[sc.made]? = some w → w.ep ≠ spk ws sc.made := by
    intro w hw e
    unfold canWrite at wr
    rw [hw] at wr
    simp only at wr
    rw [e, hS] at wr
    cases wr
  have mp : 0 < sc.made := by
    rcases Nat.eq_zero_or_pos sc.made with q | q
    · exfalso
      cases e : ws[sc.made]? with
      | some w =>
        refine turn w e ?_
        rw [q] at e ⊢
        exact (spk_zero e).symm
      | none =>
        have hl : sc.made = ws.length := by
          have := List.getElem?_eq_none_iff.mp e
          omega
        obtain ⟨_, _, z0, z1⟩ := j.zero q
        have h0 : heardAll ws sc false = true := by
          unfold heardAll
          rw [q, G_zero]
          exact decide_eq_true z0
        have h1 : heardAll ws sc true = true := by
          unfold heardAll
          rw [q, G_zero]
          exact decide_eq_true z1
        unfold finished at fin
        rw [h0, h1] at fin
        simp [hl] at fin
    · exact q
  have hb' := hb mp
  have am := C.asum
  rw [wn, cnt_nil] at am
  have sm := C.sum
  have w0 := C.w0
  have hpos : 0 < (sc.side (spk ws sc.made)).waiting := by
    refine Int.lt_of_not_ge fun hle => ?_
    have hT : heardAll ws sc (!spk ws sc.made) = true := by
      unfold heardAll
      rw [Bool.not_not]
      exact decide_eq_true (by omega)
    cases e : ws[sc.made]? with
    | some w =>
      have := spk_flip (turn w e)
      unfold canWrite at wr
      rw [e] at wr
      simp only at wr
      rw [this, hT] at wr
      cases wr
    | none =>
      have hl : sc.made = ws.length := by
        have := List.getElem?_eq_none_iff.mp e
        have := j.le
        omega
      unfold finished at fin
      have h2 : (heardAll ws sc false && heardAll ws sc true) = true := by
        cases hsp : spk ws sc.made with
        | false =>
          rw [hsp] at hS hT
          rw [hS]
          simpa using hT
        | true =>
          rw [hsp] at hS hT
          rw [hS]
          simpa using hT
      rw [h2] at fin
      simp [hl] at fin
  generalize hs : spk ws sc.made = s at *
  unfold CoreS at C
  rw [wn, wn] at C
  have pe : absS cfg sc s = absP cfg.size (cfg.pol s).hold (cfg.pol !s).every (cfg.pol !s).quick (sc.side s) (sc.side !s) [] [] := by
    unfold absS
    rw [wn, wn]
  have aid : ac (cfg.rule s) (absS cfg sc s) = absS cfg sc s := ac_id (by
    rw [pe, abs_still C]
    rintro ⟨h1, h2⟩
    rw [h1] at h2
    cases h2)
  have prest : (absS cfg sc s).rest = (sc.side s).waiting := rfl
  have pat : at4 (cfg.rule s) (absS cfg sc s) = (1, (wp (cfg.rule s) (absS cfg sc s)).1.quick) := by
    unfold at4
    rw [aid, aid]
    rw [if_neg (by rw [prest]; omega)]
  cases hk : (sc.side s).corked with
  | true =>
    have D := part_core C hpos
    have Ea := part_abs C hpos (absP cfg.size (cfg.pol s).hold (cfg.pol !s).every (cfg.pol !s).quick (sc.side s) (sc.side !s) [] []).blocked (absP cfg.size (cfg.pol s).hold (cfg.pol !s).every (cfg.pol !s).quick (sc.side s) (sc.side !s) [] []).stuck
    have e0 : sc.fire cfg s = { sc.put s ((sc.side s).sent cfg.size (sc.side s).waiting) (sc.side !s) (sc.way s ++ [((sc.side s).waiting, (sc.side s).heard)]) (sc.way !s) with stalls := sc.stalls + 1 } := by
      unfold Scene.fire
      rw [if_pos hk]
    have e1 : (sc.fire cfg s).side s = (sc.side s).sent cfg.size (sc.side s).waiting := by rw [e0]; cases s <;> rfl
    have e2 : (sc.fire cfg s).side (!s) = sc.side !s := by rw [e0]; cases s <;> rfl
    have e3 : (sc.fire cfg s).way s = [] ++ [((sc.side s).waiting, (sc.side s).heard)] := by rw [e0, ← wn s]; cases s <;> rfl
    have e4 : (sc.fire cfg s).way (!s) = [] := by rw [e0, ← wn (!s)]; cases s <;> rfl
    have e5 : (sc.fire cfg s).made = sc.made := by rw [e0]; cases s <;> rfl
    have e6 : (sc.fire cfg s).stalls = sc.stalls + 1 := by rw [e0]
    have ab : absS cfg (sc.fire cfg s) s = (wp (cfg.rule s) (absS cfg sc s)).1 := by
      unfold absS
      rw [e1, e2, e3, e4, Ea, wn, wn]
      rfl
    have at0 : at4 (cfg.rule s) (absS cfg (sc.fire cfg s) s) = (0, (wp (cfg.rule s) (absS cfg sc s)).1.quick) := by
      rw [ab, at4_rest0 wp_rest]
    refine ⟨e5, e6, ⟨by rw [e5]; exact j.le, ⟨b, ?_, ?_⟩, fun z => ?_⟩, ?_, ?_, by rw [hs, pat], by rw [hs, at0], by rw [hs, at0, pat], ?_⟩
    · rw [e5, hs]
      unfold CoreS
      rw [e1, e2, e3, e4, e5]
      exact D
    · rw [e5, hs]
      exact hb
    · rw [e5] at z
      omega
    · unfold mu
      rw [e5, hs, e1, e2, e3, e4, wn, wn]
      unfold mC
      have ew : ((sc.side s).sent cfg.size (sc.side s).waiting).waiting = 0 := by simp [Side.sent]
      have e7 : wt ([] ++ [((sc.side s).waiting, (sc.side s).heard)]) ≤ 2 := by
        show (if (sc.side s).waiting = 0 then (1 : Int) else 2) + 0 ≤ 2
        split <;> omega
      have b1 := b2_le (absP cfg.size (cfg.pol s).hold (cfg.pol !s).every (cfg.pol !s).quick ((sc.side s).sent cfg.size (sc.side s).waiting) (sc.side !s) ([] ++ [((sc.side s).waiting, (sc.side s).heard)]) []).stuck
      have b0 := b2_le (absP cfg.size (cfg.pol s).hold (cfg.pol !s).every (cfg.pol !s).quick (sc.side s) (sc.side !s) [] []).stuck
      rw [ew, p5_pos hpos, p5_neg (show ¬ (0 : Int) < 0 by decide)]
      have : wt [] = 0 := rfl
      omega
    · rw [hs]
      unfold qS
      rw [e1]
      rfl
    · rw [hs]
      exact turn
  | false =>
    obtain ⟨D, Ea⟩ := fireN_ok C hpos hk
    have e0 : sc.fire cfg s = { sc.put s (sc.side s) ((sc.side !s).sent cfg.size 0) (sc.way s) (sc.way (!s) ++ [(0, (sc.side !s).heard)]) with stalls := sc.stalls + 1 } := by
      unfold Scene.fire
      rw [if_neg (by rw [hk]; decide)]
    have e1 : (sc.fire cfg s).side s = sc.side s := by rw [e0]; cases s <;> rfl
    have e2 : (sc.fire cfg s).side (!s) = (sc.side !s).sent cfg.size 0 := by rw [e0]; cases s <;> rfl
    have e3 : (sc.fire cfg s).way s = [] := by rw [e0, ← wn s]; cases s <;> rfl
    have e4 : (sc.fire cfg s).way (!s) = [(0, (sc.side !s).heard)] := by
      rw [e0]
      have : sc.way (!s) ++ [(0, (sc.side !s).heard)] = [(0, (sc.side !s).heard)] := by rw [wn]; rfl
      rw [this]
      cases s <;> rfl
    have e5 : (sc.fire cfg s).made = sc.made := by rw [e0]; cases s <;> rfl
    have e6 : (sc.fire cfg s).stalls = sc.stalls + 1 := by rw [e0]
    have hb1 : (absS cfg sc s).blocked = true := by
      have := C.held hpos hk
      show (!(sc.side s).permits (cfg.pol s).hold) = true
      rw [this]
      rfl
    have hst : (absS cfg sc s).stuck = true := by
      have h1 : (absS cfg sc s).stuck = (absS cfg sc s).blocked := by
        rw [pe]
        exact abs_still C
      rw [h1, hb1]
    have ab : absS cfg (sc.fire cfg s) s = { absS cfg sc s with stuck := false, pending := 0 } := by
      have : absS cfg (sc.fire cfg s) s = absP cfg.size (cfg.pol s).hold (cfg.pol !s).every (cfg.pol !s).quick (sc.side s) ((sc.side !s).sent cfg.size 0) [] [(0, (sc.side !s).heard)] := by
        unfold absS
        rw [e1, e2, e3, e4]
      rw [this, Ea, pe]
    have at0 : at4 (cfg.rule s) (absS cfg (sc.fire cfg s) s) = (0, (wp (cfg.rule s) (absS cfg sc s)).1.quick) := by
      rw [← at4_ac, ab]
      have ea : ac (cfg.rule s) { absS cfg sc s with stuck := false, pending := 0 } = (wp (cfg.rule s) { absS cfg sc s with blocked := false, stuck := false, pending := 0 }).1 := by
        unfold ac ac3
        rw [if_neg (by simp [hb1])]
        simp only
        rw [if_neg (by
          show ¬ ((sc.side s).waiting = 0 ∨ (sc.side s).corked = true)
          rw [hk]
          simp
          omega)]
      rw [ea, at4_rest0 wp_rest, wp_quick, wp_quick]
    refine ⟨e5, e6, ⟨by rw [e5]; exact j.le, ⟨b, ?_, ?_⟩, fun z => ?_⟩, ?_, ?_, by rw [hs, pat], by rw [hs, at0], by rw [hs, at0, pat], ?_⟩
    · rw [e5, hs]
      unfold CoreS
      rw [e1, e2, e3, e4, e5]
      exact D
    · rw [e5, hs]
      exact hb
    · rw [e5] at z
      omega
    · have h1 : (absP cfg.size (cfg.pol s).hold (cfg.pol !s).every (cfg.pol !s).quick (sc.side s) (sc.side !s) [] []).stuck = true := by
        rw [← pe]
        exact hst
      unfold mu
      rw [e5, hs, e1, e2, e3, e4, wn, wn]
      unfold mC
      rw [Ea, h1]
      have z1 : b2 true = 2 := rfl
      have z2 : b2 false = 0 := rfl
      have z3 : wt [] = 0 := rfl
      have z4 : wt [(0, (sc.side !s).heard)] = 1 := rfl
      simp only
      omega
    · rw [hs]
      unfold qS
      rw [e1]
    · rw [hs]
      exact turn
end
end LW

/-! Latewords, the plain part 6: the search's step, plans, the play. -/
namespace LW
section
variable {cfg : Cfg} {ws : List Write} {sc : Scene}

/-! ### what is possible -/
theorem mem_possible {ev : Ev} (h : ev ∈ possible ws sc) : finished ws sc = false ∧ match ev with
    | .write => ∃ w, ws[sc.made]? = some w ∧ heardAll ws sc w.ep = true
    | .arr e => sc.way e ≠ []
    | .timer => Dead ws sc := by
  unfold possible at h
  by_cases f : finished ws sc = true
  · rw [if_pos f] at h
    cases h
  · have f' : finished ws sc = false := by simpa using f
    rw [if_neg f] at h
    refine ⟨f', ?_⟩
    cases ev with
    | write =>
      by_cases c : canWrite ws sc = true
      · unfold canWrite at c
        cases e : ws[sc.made]? with
        | none => rw [e] at c; cases c
        | some w => rw [e] at c; exact ⟨w, rfl, c⟩
      · exfalso
        by_cases a : sc.w0 = [] <;> by_cases b : sc.w1 = [] <;> simp [a, b, c] at h
    | arr e =>
      show sc.way e ≠ []
      cases e
      · intro q
        have q : sc.w0 = [] := q
        by_cases b : sc.w1 = [] <;> by_cases c : canWrite ws sc = true <;> simp [q, b, c] at h
      · intro q
        have q : sc.w1 = [] := q
        by_cases b : sc.w0 = [] <;> by_cases c : canWrite ws sc = true <;> simp [q, b, c] at h
    | timer =>
      by_cases a : sc.w0 = [] <;> by_cases b : sc.w1 = [] <;> by_cases c : canWrite ws sc = true <;> simp [a, b, c] at h
      exact ⟨f', a, b, by simpa using c⟩
theorem arr_possible {e : Bool} (f : finished ws sc = false) (h : sc.way e ≠ []) : Ev.arr e ∈ possible ws sc := by
  unfold possible
  rw [f]
  cases e
  · have h : sc.w0 ≠ [] := h
    by_cases b : sc.w1 = [] <;> by_cases c : canWrite ws sc = true <;> simp [h, b, c]
  · have h : sc.w1 ≠ [] := h
    by_cases b : sc.w0 = [] <;> by_cases c : canWrite ws sc = true <;> simp [h, b, c]
theorem write_possible {w : Write} (hw : ws[sc.made]? = some w) (hh : heardAll ws sc w.ep = true) : Ev.write ∈ possible ws sc := by
  have hl := (List.getElem?_eq_some_iff.mp hw).1
  have f : finished ws sc = false := by
    unfold finished
    have : ¬ sc.made = ws.length := by omega
    simp [this]
  have c : canWrite ws sc = true := by
    unfold canWrite
    rw [hw]
    exact hh
  unfold possible
  rw [f]
  by_cases a : sc.w0 = [] <;> by_cases b : sc.w1 = [] <;> simp [c]
theorem possible_nil : possible ws sc = [] ↔ finished ws sc = true := by
  unfold possible
  by_cases f : finished ws sc = true
  · rw [if_pos f]
    exact ⟨fun _ => f, fun _ => rfl⟩
  · rw [if_neg f]
    refine ⟨fun h => ?_, fun h => absurd h f⟩
    exfalso
    by_cases a : sc.w0 = [] <;> by_cases b : sc.w1 = [] <;> by_cases c : canWrite ws sc = true <;> simp [a, b, c] at h

theorem J.speaks (j : J cfg ws sc) : heardAll ws sc (spk ws sc.made) = true := by
  obtain ⟨b, C, _⟩ := j.core
  unfold heardAll
  rw [C.sheard]
  simp
theorem fin_rest (j : J cfg ws sc) (f : finished ws sc = true) : sc.made = ws.length ∧ at4 (cfg.rule (spk ws sc.made)) (absS cfg sc (spk ws sc.made)) = (0, (absS cfg sc (spk ws sc.made)).quick) := by
  unfold finished at f
  obtain ⟨f1, f2⟩ := Bool.and_eq_true_iff.mp f
  obtain ⟨f2, f3⟩ := Bool.and_eq_true_iff.mp f2
  obtain ⟨b, C, _⟩ := j.core
  have hT : heardAll ws sc (!spk ws sc.made) = true := by
    cases spk ws sc.made
    · exact f3
    · exact f2
  unfold heardAll at hT
  rw [Bool.not_not] at hT
  have hT := of_decide_eq_true hT
  have r8 := C.run.2.2.2.2.2.2.2
  have sm := C.sum
  have w0 := C.w0
  refine ⟨of_decide_eq_true f1, at4_rest0 ?_⟩
  show (sc.side (spk ws sc.made)).waiting = 0
  omega
theorem val_nil {sg : Int} (j : J cfg ws sc) (h : possible ws sc = []) : val cfg sg ws sc = 0 := by
  obtain ⟨h1, h2⟩ := fin_rest j (possible_nil.mp h)
  unfold val
  rw [h1, List.drop_length]
  rw [h1] at h2
  unfold best
  rw [h2]

/-- the value behind an arrival -/
theorem val_arr {sg : Int} {sc' : Scene} (a : ArrOk cfg ws sc sc') : val cfg sg ws sc' = val cfg sg ws sc ∨
    ((absS cfg sc (spk ws sc.made)).blocked = true ∧ (absS cfg sc (spk ws sc.made)).stuck = false ∧
      val cfg sg ws sc' = best cfg sg (ws.drop sc.made) (spk ws sc.made) (ac (cfg.rule (spk ws sc.made)) (absS cfg sc (spk ws sc.made))) (qS cfg sc (spk ws sc.made))) := by
  unfold val
  rw [a.made, a.q]
  rcases a.abs with e | ⟨e1, e2, e⟩
  · rw [e]
    exact Or.inl rfl
  · rw [e]
    exact Or.inr ⟨e1, e2, rfl⟩
theorem drop_at {w : Write} {m : Nat} (hw : ws[m]? = some w) : ws.drop m = w :: ws.drop (m + 1) := by
  obtain ⟨h1, h2⟩ := List.getElem?_eq_some_iff.mp hw
  rw [List.drop_eq_getElem_cons h1, h2]
theorem val_write {sg : Int} {sc' : Scene} {w : Write} (hw : ws[sc.made]? = some w) (a : WrOk cfg ws sc sc' w) :
    (w.ep = spk ws sc.made → val cfg sg ws sc' = best cfg sg (ws.drop (sc.made + 1)) (spk ws sc.made) (aw (cfg.rule (spk ws sc.made)) (absS cfg sc (spk ws sc.made)) w.len w.mode) (qS cfg sc (spk ws sc.made))) ∧
    (w.ep ≠ spk ws sc.made → val cfg sg ws sc' = val cfg sg ws sc) := by
  constructor
  · intro e
    obtain ⟨h1, h2⟩ := a.same e
    unfold val
    rw [a.spk, a.made, h1, h2, e]
  · intro e
    obtain ⟨h1, h2, h3⟩ := a.other e
    unfold val
    rw [a.spk, a.made, h2, drop_at hw]
    show _ = (if w.ep = spk ws sc.made then _ else _)
    rw [if_neg e, h1]
    simp only [h3]
    omega
theorem val_fire {sg : Int} {sc' : Scene} (a : FireOk cfg ws sc sc') : val cfg sg ws sc = val cfg sg ws sc' + 1 := by
  have t := a.turn
  unfold val
  rw [a.made, a.q]
  cases e : ws.drop sc.made with
  | nil =>
    unfold best
    rw [a.at1, a.at0]
    rfl
  | cons w r =>
    have hw : ws[sc.made]? = some w := by
      have := congrArg List.head? e
      rw [List.head?_drop] at this
      exact this
    have hn := t w hw
    show (if w.ep = spk ws sc.made then _ else _) = (if w.ep = spk ws sc.made then _ else _) + 1
    rw [if_neg hn, if_neg hn, a.at1, a.at0, a.atq]
    omega

theorem search_step {sg : Int} (hsg : sg = 1 ∨ sg = -1) (ok : cfg.Ok) (wok : WsOk ws) (j : J cfg ws sc) {ev : Ev} (h : ev ∈ possible ws sc) :
    J cfg ws (after cfg ws sc ev) ∧ mu cfg ws (after cfg ws sc ev) < mu cfg ws sc ∧ sg * val cfg sg ws sc ≤ sg * (val cfg sg ws (after cfg ws sc ev) + ((after cfg ws sc ev).stalls - sc.stalls)) := by
  obtain ⟨f, h⟩ := mem_possible h
  cases ev with
  | write =>
    obtain ⟨w, hw, hh⟩ := h
    have a := write_ok ok wok j hw hh
    have ea : after cfg ws sc .write = sc.write cfg w := by
      unfold after
      rw [hw]
    rw [ea]
    refine ⟨a.j, a.mu, ?_⟩
    rw [a.stalls, Int.sub_self, Int.add_zero]
    obtain ⟨v1, v2⟩ := val_write (sg := sg) hw a
    by_cases e : w.ep = spk ws sc.made
    · rw [v1 e]
      have := (best_now (cfg := cfg) hsg (w := w) (ws := ws.drop (sc.made + 1)) (s := spk ws sc.made) (p := absS cfg sc (spk ws sc.made)) (q := qS cfg sc (spk ws sc.made)) e).1
      rw [← drop_at hw] at this
      exact this
    · rw [v2 e]
      exact Int.le_refl _
  | arr e =>
    have a := arrive_any j h
    have ea : after cfg ws sc (.arr e) = sc.arrive cfg e := rfl
    rw [ea]
    refine ⟨a.j, a.mu, ?_⟩
    rw [a.stalls, Int.sub_self, Int.add_zero]
    rcases val_arr (sg := sg) a with q | ⟨_, _, q⟩
    · rw [q]
      exact Int.le_refl _
    · rw [q]
      exact best_ac hsg
  | timer =>
    have a := fire_ok ok wok j h
    have ea : after cfg ws sc .timer = sc.fire cfg (spk ws sc.made) := rfl
    rw [ea]
    refine ⟨a.j, a.mu, ?_⟩
    rw [a.stalls, val_fire a, show sc.stalls + 1 - sc.stalls = 1 by omega]
    exact Int.le_refl _

theorem search_ex {sg : Int} (hsg : sg = 1 ∨ sg = -1) (ok : cfg.Ok) (wok : WsOk ws) (j : J cfg ws sc) (h : possible ws sc ≠ []) :
    ∃ ev, ev ∈ possible ws sc ∧ val cfg sg ws sc = val cfg sg ws (after cfg ws sc ev) + ((after cfg ws sc ev).stalls - sc.stalls) := by
  have fin : finished ws sc = false := by
    cases e : finished ws sc with
    | false => rfl
    | true => exact absurd (possible_nil.mpr e) h
  by_cases same : ∃ w, ws[sc.made]? = some w ∧ w.ep = spk ws sc.made
  · obtain ⟨w, hw, e⟩ := same
    have hh : heardAll ws sc w.ep = true := by
      rw [e]
      exact j.speaks
    have b := (best_now (cfg := cfg) (sg := sg) hsg (w := w) (ws := ws.drop (sc.made + 1)) (s := spk ws sc.made) (p := absS cfg sc (spk ws sc.made)) (q := qS cfg sc (spk ws sc.made)) e).2
    rw [← drop_at hw] at b
    rcases b with b | ⟨b1, b2⟩
    · refine ⟨.write, write_possible hw hh, ?_⟩
      have a := write_ok ok wok j hw hh
      have ea : after cfg ws sc .write = sc.write cfg w := by
        unfold after
        rw [hw]
      rw [ea, a.stalls, Int.sub_self, Int.add_zero, (val_write (sg := sg) hw a).1 e]
      exact b
    · -- something is on the way
      have ne : sc.way (spk ws sc.made) ≠ [] ∨ sc.way (!spk ws sc.made) ≠ [] := by
        by_cases e1 : sc.way (spk ws sc.made) = []
        · by_cases e2 : sc.way (!spk ws sc.made) = []
          · exfalso
            obtain ⟨bb, C, _⟩ := j.core
            refine b1 (ac_id ?_)
            have st : (absS cfg sc (spk ws sc.made)).stuck = (absS cfg sc (spk ws sc.made)).blocked := by
              unfold absS
              rw [e1, e2]
              rfl
            rw [st]
            rintro ⟨h1, h2⟩
            rw [h1] at h2
            cases h2
          · exact Or.inr e2
        · exact Or.inl e1
      have pick : ∀ e', sc.way e' ≠ [] → ∃ ev, ev ∈ possible ws sc ∧ val cfg sg ws sc = val cfg sg ws (after cfg ws sc ev) + ((after cfg ws sc ev).stalls - sc.stalls) := by
        intro e' he
        refine ⟨.arr e', arr_possible fin he, ?_⟩
        have a := arrive_any j he
        have ea : after cfg ws sc (.arr e') = sc.arrive cfg e' := rfl
        rw [ea, a.stalls, Int.sub_self, Int.add_zero]
        rcases val_arr (sg := sg) a with q | ⟨_, _, q⟩
        · exact q.symm
        · rw [q, b2]
          rfl
      rcases ne with e' | e'
      · exact pick _ e'
      · exact pick _ e'
  · have turn : ∀ w, ws[sc.made]? = some w → w.ep ≠ spk ws sc.made := fun w hw e => same ⟨w, hw, e⟩
    obtain ⟨ev, hev⟩ := List.exists_mem_of_ne_nil _ h
    refine ⟨ev, hev, ?_⟩
    obtain ⟨_, hm⟩ := mem_possible hev
    cases ev with
    | write =>
      obtain ⟨w, hw, hh⟩ := hm
      have a := write_ok ok wok j hw hh
      have ea : after cfg ws sc .write = sc.write cfg w := by
        unfold after
        rw [hw]
      rw [ea, a.stalls, Int.sub_self, Int.add_zero, (val_write (sg := sg) hw a).2 (turn w hw)]
    | arr e' =>
      have a := arrive_any j hm
      have ea : after cfg ws sc (.arr e') = sc.arrive cfg e' := rfl
      rw [ea, a.stalls, Int.sub_self, Int.add_zero]
      rcases val_arr (sg := sg) a with q | ⟨_, _, q⟩
      · exact q.symm
      · rw [q, best_ac_eq fun w hw => turn w (by rw [List.getElem?_drop] at hw; simpa using hw)]
        rfl
    | timer =>
      have a := fire_ok ok wok j hm
      have ea : after cfg ws sc .timer = sc.fire cfg (spk ws sc.made) := rfl
      rw [ea, a.stalls, show sc.stalls + 1 - sc.stalls = 1 by omega]
      exact val_fire a

/-! ### the beginning -/
def side0 : Side := ⟨0, false, 0, 0, 0, 0, 0, 0⟩
def scene0 : Scene := ⟨0, 0, side0, side0, [], []⟩
theorem j0 (ok : cfg.Ok) : J cfg ws scene0 := by
  have sd : ∀ e, scene0.side e = side0 := fun e => by cases e <;> rfl
  have wy : ∀ e, scene0.way e = [] := fun e => by cases e <;> rfl
  refine ⟨Nat.zero_le _, ⟨0, ?_, fun h => absurd h (by decide)⟩, fun _ => ⟨rfl, rfl, rfl, rfl⟩⟩
  unfold CoreS
  rw [sd, sd, wy, wy]
  have sz := ok.size
  refine ⟨rfl, rfl, rfl, rfl, by decide, (by show (0 : Int) < _; omega), fun h => (nomatch h), rfl, fun _ h => (nomatch h), fun _ h => (nomatch h), fun _ h => (nomatch h), rfl, by decide, by decide, fun h => absurd h (by decide), by decide, fun h => h, fun _ h => (nomatch h), fun _ h => (nomatch h), Int.le_refl 0, Int.le_refl 0, Int.le_refl 0, by decide, fun _ => rfl,
    ⟨[], [], rfl, fun _ h => (nomatch h), fun _ h => (nomatch h), fun h => absurd rfl h⟩, fun _ => rfl⟩
theorem abs0 (ok : cfg.Ok) (s : Bool) : absS cfg scene0 s = first (cfg.pol !s).quick := by
  have sd : ∀ e, scene0.side e = side0 := fun e => by cases e <;> rfl
  have wy : ∀ e, scene0.way e = [] := fun e => by cases e <;> rfl
  unfold absS
  rw [sd, sd, wy, wy]
  have q := ok.quick (!s)
  have q' : max 0 ((cfg.pol !s).quick - 0) = (cfg.pol !s).quick := by omega
  unfold absP first
  rw [lrun_nil]
  have p1 : ∀ h, permitsAt h 0 0 0 = true := fun h => by cases h <;> rfl
  have e1 : ackd side0.covered [] = 0 := rfl
  simp only [e1, Side.permits]
  show (⟨0, false, !permitsAt _ 0 0 0, !permitsAt _ 0 0 0, if (cfg.pol !s).every = 0 then 0 else 0, max 0 ((cfg.pol !s).quick - 0)⟩ : Parts) = _
  rw [p1, q', ite_self]
  rfl
theorem q0 (ok : cfg.Ok) (s : Bool) : qS cfg scene0 s = (cfg.pol s).quick := by
  have sd : ∀ e, scene0.side e = side0 := fun e => by cases e <;> rfl
  unfold qS
  rw [sd]
  have q := ok.quick s
  show max 0 ((cfg.pol s).quick - 0) = _
  omega
theorem mu0 (ok : cfg.Ok) : mu cfg ws scene0 = 5 * fut cfg.size ws + ws.length := by
  have sd : ∀ e, scene0.side e = side0 := fun e => by cases e <;> rfl
  have wy : ∀ e, scene0.way e = [] := fun e => by cases e <;> rfl
  have a := abs0 ok (spk ws 0)
  unfold mu
  have em : scene0.made = 0 := rfl
  rw [em, List.drop_zero]
  have : mC cfg.size (cfg.pol (spk ws 0)).hold (cfg.pol !(spk ws 0)).every (cfg.pol !(spk ws 0)).quick (scene0.side (spk ws 0)) (scene0.side !(spk ws 0)) (scene0.way (spk ws 0)) (scene0.way !(spk ws 0)) = 0 := by
    unfold mC
    have st : (absP cfg.size (cfg.pol (spk ws 0)).hold (cfg.pol !(spk ws 0)).every (cfg.pol !(spk ws 0)).quick (scene0.side (spk ws 0)) (scene0.side !(spk ws 0)) (scene0.way (spk ws 0)) (scene0.way !(spk ws 0))).stuck = false := congrArg Parts.stuck a
    rw [st, sd, wy, wy]
    rfl
  rw [this]
  have : ((0 : Nat) : Int) = 0 := rfl
  omega
theorem mu_nn (ok : cfg.Ok) (wok : WsOk ws) (j : J cfg ws sc) : 0 ≤ mu cfg ws sc := by
  unfold mu
  have a := fut_nn ok.size (ws := ws.drop sc.made) fun w hw => wok.len w (List.mem_of_mem_drop hw)
  have b := mC_nn (size := cfg.size) (hold := (cfg.pol (spk ws sc.made)).hold) (every := (cfg.pol !(spk ws sc.made)).every) (quick := (cfg.pol !(spk ws sc.made)).quick) (S := sc.side (spk ws sc.made)) (T := sc.side !(spk ws sc.made)) (A := sc.way (spk ws sc.made)) (B := sc.way !(spk ws sc.made))
  have c := j.le
  omega

/-! ### plans -/
def acN (r : Rule) : Nat → Parts → Parts
  | 0, p => p
  | n + 1, p => ac r (acN r n p)
def run (cfg : Cfg) : List Write → List Int → Bool → Parts → Int → Int
  | [], _, s, p, _ => (at4 (cfg.rule s) p).1
  | _ :: _, [], _, _, _ => 0
  | w :: ws, k :: ks, s, p, q =>
    if w.ep = s then run cfg ws ks s (aw (cfg.rule s) (acN (cfg.rule s) k.toNat p) w.len w.mode) q
    else (at4 (cfg.rule s) p).1 + run cfg ws ks (!s) (aw (cfg.rule !s) (first q) w.len w.mode) (at4 (cfg.rule s) p).2
def PlanOk : Option Bool → List Write → List Int → Prop
  | _, [], [] => True
  | o, w :: ws, k :: ks => (k = 0 ∨ (o = some w.ep ∧ (k = 1 ∨ k = 2))) ∧ PlanOk (some w.ep) ws ks
  | _, _, _ => False
def total (cfg : Cfg) (ws : List Write) (ks : List Int) : Int := run cfg ws ks (spk ws 0) (first (cfg.pol !(spk ws 0)).quick) (cfg.pol (spk ws 0)).quick
def best0 (cfg : Cfg) (sg : Int) (ws : List Write) : Int := best cfg sg ws (spk ws 0) (first (cfg.pol !(spk ws 0)).quick) (cfg.pol (spk ws 0)).quick
theorem val0 {sg : Int} (ok : cfg.Ok) : val cfg sg ws scene0 = best0 cfg sg ws := by
  unfold val best0
  have em : scene0.made = 0 := rfl
  rw [em, List.drop_zero, abs0 ok, q0 ok]

theorem best_run {sg : Int} (hsg : sg = 1 ∨ sg = -1) : ∀ (ws : List Write) (ks : List Int) (s : Bool) (p : Parts) (q : Int), PlanOk (some s) ws ks → sg * best cfg sg ws s p q ≤ sg * run cfg ws ks s p q
  | [], _, s, p, q, _ => Int.le_refl _
  | _ :: _, [], _, _, _, h => h.elim
  | w :: ws, k :: ks, s, p, q, h => by
    obtain ⟨h1, h2⟩ := h
    unfold best run
    by_cases e : w.ep = s
    · rw [if_pos e, if_pos e]
      rw [e] at h2
      have ih := fun p' => best_run hsg ws ks s p' q h2
      have o1 := opt_le (a := opt sg (best cfg sg ws s (aw (cfg.rule s) p w.len w.mode) q) (best cfg sg ws s (aw (cfg.rule s) (ac (cfg.rule s) p) w.len w.mode) q)) (b := best cfg sg ws s (aw (cfg.rule s) (ac (cfg.rule s) (ac (cfg.rule s) p)) w.len w.mode) q) hsg
      have o2 := opt_le (a := best cfg sg ws s (aw (cfg.rule s) p w.len w.mode) q) (b := best cfg sg ws s (aw (cfg.rule s) (ac (cfg.rule s) p) w.len w.mode) q) hsg
      rcases h1 with rfl | ⟨_, rfl | rfl⟩
      · have := ih (aw (cfg.rule s) p w.len w.mode)
        show _ ≤ sg * run cfg ws ks s (aw (cfg.rule s) p w.len w.mode) q
        omega
      · have := ih (aw (cfg.rule s) (ac (cfg.rule s) p) w.len w.mode)
        show _ ≤ sg * run cfg ws ks s (aw (cfg.rule s) (ac (cfg.rule s) p) w.len w.mode) q
        omega
      · have := ih (aw (cfg.rule s) (ac (cfg.rule s) (ac (cfg.rule s) p)) w.len w.mode)
        show _ ≤ sg * run cfg ws ks s (aw (cfg.rule s) (ac (cfg.rule s) (ac (cfg.rule s) p)) w.len w.mode) q
        omega
    · rw [if_neg e, if_neg e]
      have e' := spk_flip e
      rw [e'] at h2
      have := best_run hsg ws ks (!s) (aw (cfg.rule !s) (first q) w.len w.mode) (at4 (cfg.rule s) p).2 h2
      rw [Int.mul_add, Int.mul_add]
      omega
theorem best_ex {sg : Int} : ∀ (ws : List Write) (s : Bool) (p : Parts) (q : Int), ∃ ks, PlanOk (some s) ws ks ∧ run cfg ws ks s p q = best cfg sg ws s p q
  | [], s, p, q => ⟨[], True.intro, rfl⟩
  | w :: ws, s, p, q => by
    by_cases e : w.ep = s
    · have pick : ∀ k : Int, k = 0 ∨ k = 1 ∨ k = 2 → ∃ ks, PlanOk (some s) (w :: ws) ks ∧ run cfg (w :: ws) ks s p q = best cfg sg ws s (aw (cfg.rule s) (acN (cfg.rule s) k.toNat p) w.len w.mode) q := by
        intro k hk
        obtain ⟨ks, h1, h2⟩ := best_ex ws s (aw (cfg.rule s) (acN (cfg.rule s) k.toNat p) w.len w.mode) q
        refine ⟨k :: ks, ⟨?_, by rw [e]; exact h1⟩, ?_⟩
        · rcases hk with h | h | h
          · exact Or.inl h
          · exact Or.inr ⟨by rw [e], Or.inl h⟩
          · exact Or.inr ⟨by rw [e], Or.inr h⟩
        · show (if w.ep = s then _ else _) = _
          rw [if_pos e]
          exact h2
      have u0 : best cfg sg (w :: ws) s p q =
          opt sg (opt sg (best cfg sg ws s (aw (cfg.rule s) p w.len w.mode) q) (best cfg sg ws s (aw (cfg.rule s) (ac (cfg.rule s) p) w.len w.mode) q)) (best cfg sg ws s (aw (cfg.rule s) (ac (cfg.rule s) (ac (cfg.rule s) p)) w.len w.mode) q) := by
        show (if w.ep = s then _ else _) = _
        rw [if_pos e]
      rw [u0]
      rcases opt_mem sg (opt sg (best cfg sg ws s (aw (cfg.rule s) p w.len w.mode) q) (best cfg sg ws s (aw (cfg.rule s) (ac (cfg.rule s) p) w.len w.mode) q)) (best cfg sg ws s (aw (cfg.rule s) (ac (cfg.rule s) (ac (cfg.rule s) p)) w.len w.mode) q) with o | o
      · rw [o]
        rcases opt_mem sg (best cfg sg ws s (aw (cfg.rule s) p w.len w.mode) q) (best cfg sg ws s (aw (cfg.rule s) (ac (cfg.rule s) p) w.len w.mode) q) with o2 | o2
        · rw [o2]
          exact pick 0 (Or.inl rfl)
        · rw [o2]
          exact pick 1 (Or.inr (Or.inl rfl))
      · rw [o]
        exact pick 2 (Or.inr (Or.inr rfl))
    · have e' := spk_flip e
      obtain ⟨ks, h1, h2⟩ := best_ex ws (!s) (aw (cfg.rule !s) (first q) w.len w.mode) (at4 (cfg.rule s) p).2
      refine ⟨0 :: ks, ⟨Or.inl rfl, by rw [e']; exact h1⟩, ?_⟩
      show (if w.ep = s then _ else _) = (if w.ep = s then _ else _)
      rw [if_neg e, if_neg e, h2]
/-- the first write has nothing ahead of it -/
theorem planOk_some {s : Bool} : ∀ {ws : List Write} {ks : List Int}, PlanOk none ws ks → PlanOk (some s) ws ks
  | [], [], _ => True.intro
  | w :: ws, k :: ks, h => by
    obtain ⟨h1, h2⟩ := h
    refine ⟨?_, h2⟩
    rcases h1 with h | ⟨h, _⟩
    · exact Or.inl h
    · cases h
  | [], _ :: _, h => h.elim
  | _ :: _, [], h => h.elim
theorem total_le {sg : Int} (hsg : sg = 1 ∨ sg = -1) {ks : List Int} (h : PlanOk none ws ks) : sg * best0 cfg sg ws ≤ sg * total cfg ws ks := best_run hsg ws ks _ _ _ (planOk_some h)
theorem total_ex {sg : Int} : ∃ ks, PlanOk none ws ks ∧ total cfg ws ks = best0 cfg sg ws := by
  cases ws with
  | nil => exact ⟨[], True.intro, rfl⟩
  | cons w ws =>
    have e : spk (w :: ws) 0 = w.ep := rfl
    unfold total best0
    rw [e]
    obtain ⟨ks, h1, h2⟩ := best_ex (cfg := cfg) (sg := sg) ws w.ep (aw (cfg.rule w.ep) (first (cfg.pol !w.ep).quick) w.len w.mode) (cfg.pol w.ep).quick
    refine ⟨0 :: ks, ⟨Or.inl rfl, h1⟩, ?_⟩
    show (if w.ep = w.ep then _ else _) = (if w.ep = w.ep then _ else _)
    rw [if_pos rfl, if_pos rfl, ac_first, ac_first, opt_self, opt_self]
    exact h2
end
end LW

/-! Latewords, the plain part 7: clearings of a scene, the end of a turn, a conversation played by a plan. -/
namespace LW
section
variable {cfg : Cfg} {ws : List Write} {sc : Scene}

theorem arrive_way {e : Bool} {x : Int × Int} {r : Way} (h : sc.way e = x :: r) : (sc.arrive cfg e).way e = r := by
  unfold Scene.arrive
  rw [h]
  simp

/-- up to n arrivals from e, while the conversation is not finished -/
def arrN (cfg : Cfg) (ws : List Write) (e : Bool) : Nat → Scene → Scene × Nat
  | 0, sc => (sc, 0)
  | n + 1, sc => if finished ws (arrN cfg ws e n sc).1 = true then arrN cfg ws e n sc else ((arrN cfg ws e n sc).1.arrive cfg e, (arrN cfg ws e n sc).2 + 1)

structure ArrN (cfg : Cfg) (ws : List Write) (e : Bool) (n : Nat) (sc : Scene) (r : Scene × Nat) : Prop where
  j : J cfg ws r.1
  made : r.1.made = sc.made
  cnt : r.2 ≤ n
  len : (r.1.way e).length + r.2 = (sc.way e).length
  mu : mu cfg ws r.1 + r.2 ≤ mu cfg ws sc
  stalls : r.1.stalls = sc.stalls
  q : qS cfg r.1 (spk ws sc.made) = qS cfg sc (spk ws sc.made)
  all : finished ws r.1 = true ∨ r.2 = n
  nil : r.2 = 0 → r.1 = sc
  at_ : at4 (cfg.rule (spk ws sc.made)) (absS cfg r.1 (spk ws sc.made)) = at4 (cfg.rule (spk ws sc.made)) (absS cfg sc (spk ws sc.made))
theorem arrN_ok {e : Bool} (j : J cfg ws sc) : ∀ n, n ≤ (sc.way e).length → ArrN cfg ws e n sc (arrN cfg ws e n sc)
  | 0, _ => ⟨j, rfl, Nat.le_refl _, rfl, by show mu cfg ws sc + ((0 : Nat) : Int) ≤ _; omega, rfl, rfl, Or.inr rfl, fun _ => rfl, rfl⟩
  | n + 1, h => by
    have ih := arrN_ok (e := e) j n (by omega)
    show ArrN cfg ws e (n + 1) sc (if finished ws (arrN cfg ws e n sc).1 = true then arrN cfg ws e n sc else ((arrN cfg ws e n sc).1.arrive cfg e, (arrN cfg ws e n sc).2 + 1))
    generalize arrN cfg ws e n sc = r at *
    by_cases f : finished ws r.1 = true
    · rw [if_pos f]
      exact ⟨ih.j, ih.made, Nat.le_succ_of_le ih.cnt, ih.len, ih.mu, ih.stalls, ih.q, Or.inl f, ih.nil, ih.at_⟩
    · rw [if_neg f]
      have c := ih.cnt
      have l := ih.len
      have m := ih.mu
      obtain ⟨x, t, ew⟩ : ∃ x t, r.1.way e = x :: t := by
        cases q : r.1.way e with
        | nil =>
          rw [q] at l
          simp at l
          omega
        | cons x t => exact ⟨x, t, rfl⟩
      have a := arrive_any ih.j (e := e) (by rw [ew]; exact List.cons_ne_nil _ _)
      have am := a.mu
      have aq := a.q
      have aa := a.abs
      rw [ih.made] at aq aa
      refine ⟨a.j, a.made.trans ih.made, by simp only; omega, ?_, by simp only; omega, a.stalls.trans ih.stalls, aq.trans ih.q, Or.inr ?_, fun z => (nomatch z), ?_⟩
      · simp only
        rw [arrive_way ew]
        rw [ew] at l
        simp at l
        omega
      · rcases ih.all with q | q
        · exact absurd q f
        · simp only
          omega
      · simp only
        rw [← ih.at_]
        rcases aa with q | ⟨_, _, q⟩
        · rw [q]
        · rw [q, at4_ac]
/-- before the last of them something is on the way, if the conversation is not finished -/
theorem arrN_more {e : Bool} (j : J cfg ws sc) {n : Nat} (h : n < (sc.way e).length) (f : finished ws (arrN cfg ws e n sc).1 = false) : (arrN cfg ws e n sc).1.way e ≠ [] ∧ Ev.arr e ∈ possible ws (arrN cfg ws e n sc).1 := by
  have a := arrN_ok (e := e) j n (by omega)
  have c := a.cnt
  have l := a.len
  have ne : (arrN cfg ws e n sc).1.way e ≠ [] := by
    intro q
    rw [q] at l
    simp at l
    omega
  exact ⟨ne, arr_possible f ne⟩

/-- a clearing, and how many events it took -/
def clr (cfg : Cfg) (ws : List Write) (sc : Scene) : Scene × Nat :=
  if sc.made = 0 then (sc, 0) else
  let r1 := arrN cfg ws (spk ws sc.made) (sc.way (spk ws sc.made)).length sc
  let r2 := arrN cfg ws (!spk ws sc.made) (r1.1.way !spk ws sc.made).length r1.1
  (r2.1, r1.2 + r2.2)

structure ClrOk (cfg : Cfg) (ws : List Write) (sc : Scene) (r : Scene × Nat) : Prop where
  j : J cfg ws r.1
  made : r.1.made = sc.made
  mu : mu cfg ws r.1 + r.2 ≤ mu cfg ws sc
  stalls : r.1.stalls = sc.stalls
  q : qS cfg r.1 (spk ws sc.made) = qS cfg sc (spk ws sc.made)
  nil : r.2 = 0 → r.1 = sc ∧ (finished ws sc = true ∨ (sc.w0 = [] ∧ sc.w1 = []))
  at_ : at4 (cfg.rule (spk ws sc.made)) (absS cfg r.1 (spk ws sc.made)) = at4 (cfg.rule (spk ws sc.made)) (absS cfg sc (spk ws sc.made))
theorem clr_ok (j : J cfg ws sc) : ClrOk cfg ws sc (clr cfg ws sc) := by
  unfold clr
  by_cases m0 : sc.made = 0
  · rw [if_pos m0]
    obtain ⟨z1, z2, _⟩ := j.zero m0
    exact ⟨j, rfl, by show mu cfg ws sc + ((0 : Nat) : Int) ≤ _; omega, rfl, rfl, fun _ => ⟨rfl, Or.inr ⟨z1, z2⟩⟩, rfl⟩
  · rw [if_neg m0]
    have a := arrN_ok (e := spk ws sc.made) j _ (Nat.le_refl _)
    simp only
    generalize arrN cfg ws (spk ws sc.made) (sc.way (spk ws sc.made)).length sc = r1 at *
    have b := arrN_ok (e := !spk ws sc.made) a.j _ (Nat.le_refl _)
    generalize arrN cfg ws (!spk ws sc.made) (r1.1.way !spk ws sc.made).length r1.1 = r2 at *
    have bm := b.made
    have bq := b.q
    have ba := b.at_
    have m1 := a.mu
    have m2 := b.mu
    rw [a.made] at bm bq ba
    refine ⟨b.j, bm, by simp only; omega, b.stalls.trans a.stalls, bq.trans a.q, ?_, ba.trans a.at_⟩
    simp only
    intro z
    have z1 : r1.2 = 0 := by omega
    have z2 : r2.2 = 0 := by omega
    have e1 := a.nil z1
    have e2 := b.nil z2
    refine ⟨e2.trans e1, ?_⟩
    rcases a.all with f | f
    · rw [e1] at f
      exact Or.inl f
    · rcases b.all with g | g
      · rw [e2, e1] at g
        exact Or.inl g
      · right
        have l1 : (sc.way (spk ws sc.made)).length = 0 := by omega
        have l2 : (sc.way !spk ws sc.made).length = 0 := by
          rw [z2, e1] at g
          omega
        have n1 := List.length_eq_zero_iff.mp l1
        have n2 := List.length_eq_zero_iff.mp l2
        cases hs : spk ws sc.made with
        | false =>
          rw [hs] at n1 n2
          exact ⟨n1, n2⟩
        | true =>
          rw [hs] at n1 n2
          exact ⟨n2, n1⟩

/-! ### a clearing within a turn is a clearing of its state -/
theorem arrN_abs (j : J cfg ws sc) : ∀ n, n ≤ (sc.way (spk ws sc.made)).length → absS cfg (arrN cfg ws (spk ws sc.made) n sc).1 (spk ws sc.made) = absS cfg sc (spk ws sc.made)
  | 0, _ => rfl
  | n + 1, h => by
    have ih := arrN_abs j n (by omega)
    have a := arrN_ok (e := spk ws sc.made) j n (by omega)
    show absS cfg (if finished ws (arrN cfg ws (spk ws sc.made) n sc).1 = true then arrN cfg ws (spk ws sc.made) n sc else ((arrN cfg ws (spk ws sc.made) n sc).1.arrive cfg (spk ws sc.made), (arrN cfg ws (spk ws sc.made) n sc).2 + 1)).1 (spk ws sc.made) = _
    by_cases f : finished ws (arrN cfg ws (spk ws sc.made) n sc).1 = true
    · rw [if_pos f]
      exact ih
    · rw [if_neg f]
      have ne := (arrN_more (e := spk ws sc.made) (n := n) j (by omega) (by simpa using f)).1
      have b := (arrive_s a.j (by rw [a.made]; exact ne)).2
      rw [a.made] at b
      exact b.trans ih
def HalfS (cfg : Cfg) (sc : Scene) (s : Bool) (p : Parts) : Prop :=
  Half cfg.size (cfg.pol s).hold (cfg.pol !s).every (cfg.pol !s).quick (sc.side s) (sc.side !s) (sc.way s) (sc.way !s) p
theorem arrN_half {p : Parts} (j : J cfg ws sc) (h : HalfS cfg sc (spk ws sc.made) p) : ∀ n, n ≤ (sc.way (!spk ws sc.made)).length → HalfS cfg (arrN cfg ws (!spk ws sc.made) n sc).1 (spk ws sc.made) p
  | 0, _ => h
  | n + 1, hn => by
    have ih := arrN_half j h n (by omega)
    have a := arrN_ok (e := !spk ws sc.made) j n (by omega)
    show HalfS cfg (if finished ws (arrN cfg ws (!spk ws sc.made) n sc).1 = true then arrN cfg ws (!spk ws sc.made) n sc else ((arrN cfg ws (!spk ws sc.made) n sc).1.arrive cfg (!spk ws sc.made), (arrN cfg ws (!spk ws sc.made) n sc).2 + 1)).1 (spk ws sc.made) p
    by_cases f : finished ws (arrN cfg ws (!spk ws sc.made) n sc).1 = true
    · rw [if_pos f]
      exact ih
    · rw [if_neg f]
      have ne := (arrN_more (e := !spk ws sc.made) (n := n) j (by omega) (by simpa using f)).1
      simp only
      have m : (arrN cfg ws (!spk ws sc.made) n sc).1.made = sc.made := a.made
      have aj := a.j
      generalize (arrN cfg ws (!spk ws sc.made) n sc).1 = r at ih ne m aj ⊢
      obtain ⟨x, t, ew⟩ : ∃ x t, r.way (!spk ws sc.made) = x :: t := by
        cases q : r.way (!spk ws sc.made) with
        | nil => exact absurd q ne
        | cons x t => exact ⟨x, t, rfl⟩
      have eq := arrive_t_eq aj (x := x) (r := t) (by rw [m]; exact ew)
      rw [m] at eq
      rw [eq]
      obtain ⟨b, C, _⟩ := aj.core
      unfold CoreS at C
      rw [m, ew] at C
      unfold HalfS at ih ⊢
      rw [ew] at ih
      simp only [put_side, put_side', put_way, put_way']
      exact half_step C ih
theorem notfin (h : sc.made < ws.length) : finished ws sc = false := by
  unfold finished
  have : ¬ sc.made = ws.length := by omega
  simp [this]
theorem clr_abs (j : J cfg ws sc) (h0 : 0 < sc.made) (h : sc.made < ws.length) : absS cfg (clr cfg ws sc).1 (spk ws sc.made) = ac (cfg.rule (spk ws sc.made)) (absS cfg sc (spk ws sc.made)) := by
  unfold clr
  rw [if_neg (by omega)]
  simp only
  have a := arrN_ok (e := spk ws sc.made) j _ (Nat.le_refl _)
  have a2 := arrN_abs j _ (Nat.le_refl _)
  generalize arrN cfg ws (spk ws sc.made) (sc.way (spk ws sc.made)).length sc = r1 at *
  have l1 : r1.1.way (spk ws sc.made) = [] := by
    have l := a.len
    rcases a.all with f | f
    · rw [notfin (by rw [a.made]; exact h)] at f
      cases f
    · exact List.length_eq_zero_iff.mp (by omega)
  have hh : HalfS cfg r1.1 (spk ws r1.1.made) (absS cfg sc (spk ws sc.made)) := by
    rw [a.made]
    exact Or.inl ⟨l1, a2⟩
  have b := arrN_ok (e := !spk ws r1.1.made) a.j _ (Nat.le_refl _)
  have b2 := arrN_half a.j hh _ (Nat.le_refl _)
  rw [a.made] at b b2
  generalize arrN cfg ws (!spk ws sc.made) (r1.1.way !spk ws sc.made).length r1.1 = r2 at *
  have m2 : r2.1.made = sc.made := b.made.trans a.made
  have l2 : r2.1.way (!spk ws sc.made) = [] := by
    have l := b.len
    rcases b.all with f | f
    · rw [notfin (by rw [m2]; exact h)] at f
      cases f
    · exact List.length_eq_zero_iff.mp (by omega)
  obtain ⟨bb, C, _⟩ := b.j.core
  unfold CoreS at C
  rw [m2, l2] at C
  unfold HalfS at b2
  rw [l2] at b2
  have := half_end C b2
  unfold absS
  rw [l2]
  exact this

/-! ### arrivals and the timer, in a turn whose writes are made -/
structure Led (cfg : Cfg) (ws : List Write) (sc sc' : Scene) : Prop where
  j : J cfg ws sc'
  made : sc'.made = sc.made
  q : qS cfg sc' (spk ws sc.made) = qS cfg sc (spk ws sc.made)
  at1 : sc'.stalls + (at4 (cfg.rule (spk ws sc.made)) (absS cfg sc' (spk ws sc.made))).1 = sc.stalls + (at4 (cfg.rule (spk ws sc.made)) (absS cfg sc (spk ws sc.made))).1
  at2 : (at4 (cfg.rule (spk ws sc.made)) (absS cfg sc' (spk ws sc.made))).2 = (at4 (cfg.rule (spk ws sc.made)) (absS cfg sc (spk ws sc.made))).2
theorem Led.refl (j : J cfg ws sc) : Led cfg ws sc sc := ⟨j, rfl, rfl, rfl, rfl⟩
theorem Led.trans {sc' sc'' : Scene} (a : Led cfg ws sc sc') (b : Led cfg ws sc' sc'') : Led cfg ws sc sc'' := by
  have b1 := b.q
  have b2 := b.at1
  have b3 := b.at2
  rw [a.made] at b1 b2 b3
  exact ⟨b.j, b.made.trans a.made, b1.trans a.q, b2.trans a.at1, b3.trans a.at2⟩
theorem ClrOk.led {r : Scene × Nat} (a : ClrOk cfg ws sc r) : Led cfg ws sc r.1 := ⟨a.j, a.made, a.q, by rw [a.stalls, a.at_], by rw [a.at_]⟩
theorem FireOk.led {sc' : Scene} (a : FireOk cfg ws sc sc') : Led cfg ws sc sc' := ⟨a.j, a.made, a.q, by rw [a.stalls, a.at0, a.at1]; omega, a.atq⟩

/-- no clearing takes an event -/
def Settled (ws : List Write) (sc : Scene) : Prop := finished ws sc = true ∨ (sc.w0 = [] ∧ sc.w1 = [])
theorem settled_cases (h : Settled ws sc) : Dead ws sc ∨ finished ws sc = true ∨ canWrite ws sc = true := by
  cases f : finished ws sc with
  | true => exact Or.inr (Or.inl rfl)
  | false =>
    rcases h with h | ⟨h1, h2⟩
    · rw [f] at h
      cases h
    · cases c : canWrite ws sc with
      | true => exact Or.inr (Or.inr rfl)
      | false => exact Or.inl ⟨f, h1, h2, c⟩
/-- behind the timer there is no second one -/
theorem no_second (ok : cfg.Ok) (wok : WsOk ws) {sc1 sc2 : Scene} (a : FireOk cfg ws sc sc1) (l : J cfg ws sc2) (m : sc2.made = sc1.made) (e : at4 (cfg.rule (spk ws sc1.made)) (absS cfg sc2 (spk ws sc1.made)) = at4 (cfg.rule (spk ws sc1.made)) (absS cfg sc1 (spk ws sc1.made))) : ¬ Dead ws sc2 := by
  intro d
  have f := (fire_ok ok wok l d).at1
  have a0 := a.at0
  rw [m, e] at f
  rw [← a.made] at a0
  rw [a0] at f
  cases f

/-! ### a conversation played by a plan -/
structure Played (cfg : Cfg) (ws : List Write) (ks : List Int) (sc : Scene) : Prop where
  j : J cfg ws sc
  eq : sc.stalls + run cfg (ws.drop sc.made) (ks.drop sc.made) (spk ws sc.made) (absS cfg sc (spk ws sc.made)) (qS cfg sc (spk ws sc.made)) = total cfg ws ks
theorem played0 {ks : List Int} (ok : cfg.Ok) : Played cfg ws ks scene0 := by
  refine ⟨j0 ok, ?_⟩
  have em : scene0.made = 0 := rfl
  rw [em, List.drop_zero, List.drop_zero, abs0 ok, q0 ok]
  show 0 + _ = _
  unfold total
  omega
/-- the turn's writes are made -/
def TurnDone (ws : List Write) (sc : Scene) : Prop := ∀ w, ws[sc.made]? = some w → w.ep ≠ spk ws sc.made
theorem run_at4 {s : Bool} {p p' : Parts} {q : Int} : ∀ {ws : List Write} {ks : List Int}, (∀ w, ws[0]? = some w → w.ep ≠ s) → ks.length = ws.length → (at4 (cfg.rule s) p').2 = (at4 (cfg.rule s) p).2 →
    run cfg ws ks s p' q = run cfg ws ks s p q - (at4 (cfg.rule s) p).1 + (at4 (cfg.rule s) p').1
  | [], _, _, _, _ => by
    unfold run
    omega
  | w :: ws, [], _, h, _ => by simp at h
  | w :: ws, k :: ks, h, _, e => by
    have hn := h w rfl
    show (if w.ep = s then _ else _) = (if w.ep = s then _ else _) - _ + _
    rw [if_neg hn, if_neg hn, e]
    omega
theorem played_led {ks : List Int} {sc' : Scene} (hl : ks.length = ws.length) (p : Played cfg ws ks sc) (t : TurnDone ws sc) (l : Led cfg ws sc sc') : Played cfg ws ks sc' ∧ TurnDone ws sc' := by
  refine ⟨⟨l.j, ?_⟩, ?_⟩
  · have e := p.eq
    have a1 := l.at1
    rw [l.made, l.q, run_at4 (p := absS cfg sc (spk ws sc.made)) (fun w hw => t w (by rw [List.getElem?_drop] at hw; simpa using hw)) (by rw [List.length_drop, List.length_drop, hl]) l.at2]
    omega
  · unfold TurnDone
    rw [l.made]
    exact t
/-- k clearings ahead of the next write -/
structure PlayedC (cfg : Cfg) (ws : List Write) (ks : List Int) (k : Nat) (sc : Scene) : Prop where
  j : J cfg ws sc
  eq : ∃ p, absS cfg sc (spk ws sc.made) = acN (cfg.rule (spk ws sc.made)) k p ∧ sc.stalls + run cfg (ws.drop sc.made) (ks.drop sc.made) (spk ws sc.made) p (qS cfg sc (spk ws sc.made)) = total cfg ws ks
theorem Played.c {ks : List Int} (p : Played cfg ws ks sc) : PlayedC cfg ws ks 0 sc := ⟨p.j, _, rfl, p.eq⟩
theorem playedC_clr {ks : List Int} {k : Nat} (p : PlayedC cfg ws ks k sc) (h0 : 0 < sc.made) (h : sc.made < ws.length) : PlayedC cfg ws ks (k + 1) (clr cfg ws sc).1 := by
  obtain ⟨p0, e1, e2⟩ := p.eq
  have a := clr_ok p.j
  refine ⟨a.j, p0, ?_, ?_⟩
  · rw [a.made, clr_abs p.j h0 h, e1]
    rfl
  · rw [a.made, a.stalls, a.q]
    exact e2
theorem playedC_write {ks : List Int} {k : Int} {w : Write} (ok : cfg.Ok) (wok : WsOk ws) (hw : ws[sc.made]? = some w) (hk : ks[sc.made]? = some k) (h0 : 0 ≤ k) (p : PlayedC cfg ws ks k.toNat sc) (hh : heardAll ws sc w.ep = true)
    (hn : w.ep ≠ spk ws sc.made → k = 0) : Played cfg ws ks (sc.write cfg w) ∧ (sc.write cfg w).made = sc.made + 1 := by
  have a := write_ok ok wok p.j hw hh
  obtain ⟨p0, e1, e2⟩ := p.eq
  refine ⟨⟨a.j, ?_⟩, a.made⟩
  have dk : ks.drop sc.made = k :: ks.drop (sc.made + 1) := by
    obtain ⟨h1, h2⟩ := List.getElem?_eq_some_iff.mp hk
    rw [List.drop_eq_getElem_cons h1, h2]
  rw [drop_at hw, dk] at e2
  rw [a.spk, a.made, a.stalls, ← e2]
  congr 1
  by_cases e : w.ep = spk ws sc.made
  · obtain ⟨h1, h2⟩ := a.same e
    rw [h1, h2]
    show _ = (if w.ep = spk ws sc.made then _ else _)
    rw [if_pos e, e, e1]
  · obtain ⟨h1, h2, h3⟩ := a.other e
    have := hn e
    subst this
    have e1 : absS cfg sc (spk ws sc.made) = p0 := e1
    rw [e1] at h1
    rw [h2]
    show _ = (if w.ep = spk ws sc.made then _ else _)
    rw [if_neg e, h1]
    simp only [h3]
    omega
theorem played_end {ks : List Int} (p : Played cfg ws ks sc) (f : finished ws sc = true) : sc.stalls = total cfg ws ks := by
  obtain ⟨h1, h2⟩ := fin_rest p.j f
  have e := p.eq
  rw [h1, List.drop_length] at e
  rw [h1] at h2
  unfold run at e
  rw [h2] at e
  omega
end
end LW

/-! Latewords, the plain part 8: turns, plans by their places, what the program's tables of orders hold. -/
namespace LW
section
variable {cfg : Cfg} {ws : List Write}

def epAt (ws : List Write) (i : Nat) : Option Bool := (ws[i]?).map (·.ep)
/-- the most clearings ahead of the i-th write -/
def bnd (ws : List Write) (i : Nat) : Int := if 0 < i ∧ epAt ws (i - 1) = epAt ws i then 2 else 0
/-- a plan for the first m writes -/
def PlanP (ws : List Write) (m : Nat) (ks : List Int) : Prop := ks.length = m ∧ ∀ (i : Nat) (k : Int), ks[i]? = some k → 0 ≤ k ∧ k ≤ bnd ws i
/-- a plan within a turn -/
def TurnOk (n : Nat) (ks : List Int) : Prop := ks.length = n ∧ ∀ (i : Nat) (k : Int), ks[i]? = some k → 0 ≤ k ∧ k ≤ (if 0 < i then 2 else 0)

theorem planOk_iff : ∀ (o : Option Bool) (ws : List Write) (ks : List Int), PlanOk o ws ks ↔ (ks.length = ws.length ∧ ∀ (i : Nat) (k : Int), ks[i]? = some k → 0 ≤ k ∧ k ≤ (if (if i = 0 then o else epAt ws (i - 1)) = epAt ws i then 2 else 0))
  | o, [], [] => by simp [PlanOk]
  | o, [], k :: ks => by simp [PlanOk]
  | o, w :: ws, [] => by simp [PlanOk]
  | o, w :: ws, k :: ks => by
    have ih := planOk_iff (some w.ep) ws ks
    show ((k = 0 ∨ (o = some w.ep ∧ (k = 1 ∨ k = 2))) ∧ PlanOk (some w.ep) ws ks) ↔ _
    rw [ih]
    constructor
    · rintro ⟨h1, h2, h3⟩
      refine ⟨by simp [h2], fun i x hx => ?_⟩
      cases i with
      | zero =>
        have ex : k = x := by simpa using hx
        subst ex
        rw [if_pos rfl]
        show 0 ≤ k ∧ k ≤ if o = some w.ep then 2 else 0
        rcases h1 with h | ⟨h, h'⟩
        · subst h
          split <;> omega
        · rw [if_pos h]
          omega
      | succ i =>
        have hx' : ks[i]? = some x := by simpa using hx
        have a := h3 i x hx'
        have e1 : (if i + 1 = 0 then o else epAt (w :: ws) (i + 1 - 1)) = (if i = 0 then some w.ep else epAt ws (i - 1)) := by
          rw [if_neg (by omega)]
          cases i with
          | zero => rfl
          | succ i => rw [if_neg (by omega)]; rfl
        have e2 : epAt (w :: ws) (i + 1) = epAt ws i := rfl
        rw [e1, e2]
        exact a
    · rintro ⟨h1, h2⟩
      refine ⟨?_, by simpa using h1, fun i x hx => ?_⟩
      · have a := h2 0 k rfl
        rw [if_pos rfl] at a
        have a : 0 ≤ k ∧ k ≤ if o = some w.ep then 2 else 0 := a
        by_cases h : o = some w.ep
        · rw [if_pos h] at a
          by_cases hk : k = 0
          · exact Or.inl hk
          · exact Or.inr ⟨h, by omega⟩
        · rw [if_neg h] at a
          exact Or.inl (by omega)
      · have a := h2 (i + 1) x (by simpa using hx)
        have e1 : (if i + 1 = 0 then o else epAt (w :: ws) (i + 1 - 1)) = (if i = 0 then some w.ep else epAt ws (i - 1)) := by
          rw [if_neg (by omega)]
          cases i with
          | zero => rfl
          | succ i => rw [if_neg (by omega)]; rfl
        have e2 : epAt (w :: ws) (i + 1) = epAt ws i := rfl
        rw [e1, e2] at a
        exact a
theorem planP_iff {ks : List Int} : PlanOk none ws ks ↔ PlanP ws ws.length ks := by
  rw [planOk_iff]
  unfold PlanP
  constructor
  · rintro ⟨h1, h2⟩
    refine ⟨h1, fun i k hk => ?_⟩
    have a := h2 i k hk
    have hi : i < ws.length := by
      rw [← h1]
      exact (List.getElem?_eq_some_iff.mp hk).1
    unfold bnd
    cases i with
    | zero =>
      rw [if_pos rfl] at a
      have : ¬ (none = epAt ws 0) := by
        unfold epAt
        rw [List.getElem?_eq_getElem hi]
        exact fun q => nomatch q
      rw [if_neg this] at a
      rw [if_neg (by omega)]
      exact a
    | succ i =>
      rw [if_neg (Nat.succ_ne_zero i)] at a
      by_cases h : epAt ws (i + 1 - 1) = epAt ws (i + 1)
      · rw [if_pos h] at a
        rw [if_pos ⟨by omega, h⟩]
        exact a
      · rw [if_neg h] at a
        rw [if_neg fun q => h q.2]
        exact a
  · rintro ⟨h1, h2⟩
    refine ⟨h1, fun i k hk => ?_⟩
    have a := h2 i k hk
    unfold bnd at a
    cases i with
    | zero =>
      rw [if_neg (by omega)] at a
      rw [if_pos rfl]
      split <;> omega
    | succ i =>
      rw [if_neg (Nat.succ_ne_zero i)]
      by_cases h : epAt ws (i + 1 - 1) = epAt ws (i + 1)
      · rw [if_pos ⟨by omega, h⟩] at a
        rw [if_pos h]
        exact a
      · rw [if_neg fun q => h q.2] at a
        rw [if_neg h]
        exact a

theorem last_at {ks : List Int} {n : Nat} (h : ks.length = n + 1) (hne : ks ≠ []) : ks[n]? = some (ks.getLast hne) := by
  rw [← List.getLast?_eq_some_getLast hne, List.getLast?_eq_getElem?, h]
  rfl
/-! ### all orders, as the law lists them -/
def bndN (ws : List Write) (i : Nat) : Nat := if 0 < i ∧ epAt ws (i - 1) = epAt ws i then 3 else 1
def listsN (ws : List Write) : Nat → List (List Int)
  | 0 => [[]]
  | n + 1 => (listsN ws n).flatMap fun ks => (List.range (bndN ws n)).map fun (c : Nat) => ks ++ [(c : Int)]
theorem mem_listsN : ∀ (n : Nat) (ks : List Int), ks ∈ listsN ws n ↔ PlanP ws n ks
  | 0, ks => by
    show ks ∈ [[]] ↔ _
    rw [List.mem_singleton]
    constructor
    · rintro rfl
      exact ⟨rfl, fun i k h => by simp at h⟩
    · rintro ⟨h, _⟩
      exact List.length_eq_zero_iff.mp h
  | n + 1, ks => by
    have bb : ∀ k : Int, (∃ c, c < bndN ws n ∧ (c : Int) = k) ↔ (0 ≤ k ∧ k ≤ bnd ws n) := by
      intro k
      unfold bndN bnd
      constructor
      · rintro ⟨c, h, rfl⟩
        split at h
        · rename_i q
          rw [if_pos q]
          omega
        · rename_i q
          rw [if_neg q]
          omega
      · rintro ⟨h0, h1⟩
        refine ⟨k.toNat, ?_, by omega⟩
        split
        · rename_i q
          rw [if_pos q] at h1
          omega
        · rename_i q
          rw [if_neg q] at h1
          omega
    show ks ∈ (listsN ws n).flatMap (fun ks => (List.range (bndN ws n)).map fun (c : Nat) => ks ++ [(c : Int)]) ↔ _
    rw [List.mem_flatMap]
    constructor
    · rintro ⟨k0, h1, h2⟩
      obtain ⟨l1, l2⟩ := (mem_listsN n k0).mp h1
      obtain ⟨c, hc, rfl⟩ := List.mem_map.mp h2
      have hc := List.mem_range.mp hc
      refine ⟨by simp [l1], fun i k hk => ?_⟩
      by_cases hi : i < n
      · rw [List.getElem?_append_left (by omega)] at hk
        exact l2 i k hk
      · rw [List.getElem?_append_right (by omega)] at hk
        have hi2 : i - k0.length = 0 := by
          have := (List.getElem?_eq_some_iff.mp hk).1
          simpa using this
        rw [hi2] at hk
        have ek : (c : Int) = k := by simpa using hk
        have ei : i = n := by omega
        subst ei
        exact (bb k).mp ⟨c, hc, ek⟩
    · rintro ⟨h1, h2⟩
      have hne : ks ≠ [] := by
        rintro rfl
        simp at h1
      have hd : ks.dropLast ++ [ks.getLast hne] = ks := List.dropLast_concat_getLast hne
      have hl : ks.dropLast.length = n := by rw [List.length_dropLast]; omega
      refine ⟨ks.dropLast, (mem_listsN n _).mpr ⟨hl, fun i k hk => ?_⟩, ?_⟩
      · refine h2 i k ?_
        have hi := (List.getElem?_eq_some_iff.mp hk).1
        rw [← hd, List.getElem?_append_left hi]
        exact hk
      · obtain ⟨c, hc, e⟩ := (bb (ks.getLast hne)).mpr (h2 n _ (last_at h1 hne))
        refine List.mem_map.mpr ⟨c, List.mem_range.mpr hc, ?_⟩
        rw [e]
        exact hd

/-! ### the turns -/
/-- the turns of the first n writes, in order -/
inductive TP (ws : List Write) : List (Bool × Nat × Nat) → Nat → Prop where
  | nil : TP ws [] 0
  | snoc {ts : List (Bool × Nat × Nat)} {s : Bool} {m m' : Nat} : TP ws ts m → m < m' → (∀ i, m ≤ i → i < m' → epAt ws i = some s) → (m = 0 ∨ epAt ws (m - 1) ≠ some s) → TP ws (ts ++ [(s, m, m')]) m'
structure IsTurn (ws : List Write) (n : Nat) (s : Bool) (m m' : Nat) : Prop where
  lt : m < m'
  le : m' ≤ n
  all : ∀ i, m ≤ i → i < m' → epAt ws i = some s
  start : m = 0 ∨ epAt ws (m - 1) ≠ some s
  stop : m' = n ∨ epAt ws m' ≠ some s
def stopAt (ts : List (Bool × Nat × Nat)) (j : Nat) : Nat := if j = 0 then 0 else ((ts[j - 1]?).map (·.2.2)).getD 0
theorem stopAt_append {ts : List (Bool × Nat × Nat)} {x : Bool × Nat × Nat} {j : Nat} (h : j ≤ ts.length) : stopAt (ts ++ [x]) j = stopAt ts j := by
  unfold stopAt
  by_cases q : j = 0
  · rw [if_pos q, if_pos q]
  · rw [if_neg q, if_neg q, List.getElem?_append_left (by omega)]
theorem TP.at_ {ts : List (Bool × Nat × Nat)} {n : Nat} (h : TP ws ts n) : stopAt ts ts.length = n ∧ ∀ j s m m', ts[j]? = some (s, m, m') → stopAt ts j = m ∧ stopAt ts (j + 1) = m' ∧ IsTurn ws n s m m' := by
  induction h with
  | nil => exact ⟨rfl, fun j s m m' h => by simp at h⟩
  | snoc h lt all st ih =>
    rename_i ts s m m'
    obtain ⟨ih1, ih2⟩ := ih
    have sl : stopAt (ts ++ [(s, m, m')]) (ts.length + 1) = m' := by
      unfold stopAt
      rw [if_neg (by omega), Nat.add_sub_cancel, List.getElem?_append_right (Nat.le_refl _)]
      simp
    refine ⟨by rw [List.length_append]; exact sl, fun j s2 a b hj => ?_⟩
    by_cases hlt : j < ts.length
    · rw [List.getElem?_append_left hlt] at hj
      obtain ⟨h1, h2, t⟩ := ih2 j s2 a b hj
      refine ⟨by rw [stopAt_append (by omega)]; exact h1, by rw [stopAt_append (by omega)]; exact h2, ⟨t.lt, by have := t.le; omega, t.all, t.start, ?_⟩⟩
      right
      rcases t.stop with q | q
      · -- the turn that ends where this one begins
        rw [q, all m (Nat.le_refl _) lt]
        intro e
        have e : s = s2 := Option.some.inj e
        subst e
        have tl := t.lt
        rcases st with z | z
        · omega
        · exact z (t.all (m - 1) (by omega) (by omega))
      · exact q
    · rw [List.getElem?_append_right (by omega)] at hj
      have hj0 : j - ts.length = 0 := by
        have := (List.getElem?_eq_some_iff.mp hj).1
        simpa using this
      rw [hj0] at hj
      have e : (s, m, m') = (s2, a, b) := by simpa using hj
      obtain ⟨rfl, rfl, rfl⟩ : s = s2 ∧ m = a ∧ m' = b := by simpa using e
      have ej : j = ts.length := by omega
      subst ej
      exact ⟨by rw [stopAt_append (Nat.le_refl _)]; exact ih1, sl, ⟨lt, Nat.le_refl _, all, st, Or.inl rfl⟩⟩
/-- one more write -/
def addT (found : List (Bool × Nat × Nat)) (i : Nat) (e : Bool) : List (Bool × Nat × Nat) := match found.getLast? with
  | none => [(e, i, i + 1)]
  | some (e', a, _) => if e' = e then found.dropLast ++ [(e', a, i + 1)] else found ++ [(e, i, i + 1)]
theorem TP.nil_iff {ts : List (Bool × Nat × Nat)} {n : Nat} (h : TP ws ts n) : ts = [] ↔ n = 0 := by
  cases h with
  | nil => simp
  | snoc h lt all st =>
    constructor
    · intro q
      simp at q
    · intro q
      omega
theorem TP.add {ts : List (Bool × Nat × Nat)} {n : Nat} (h : TP ws ts n) {e : Bool} (he : epAt ws n = some e) : TP ws (addT ts n e) (n + 1) := by
  cases h with
  | nil => exact TP.snoc (ts := []) .nil (by omega) (fun i h1 h2 => by rw [show i = 0 by omega]; exact he) (Or.inl rfl)
  | snoc h lt all st =>
    rename_i ts s m
    unfold addT
    rw [List.getLast?_concat]
    simp only
    by_cases q : s = e
    · rw [if_pos q, List.dropLast_concat]
      subst q
      refine TP.snoc h (by omega) (fun i h1 h2 => ?_) st
      by_cases hi : i = n
      · rw [hi]
        exact he
      · exact all i h1 (by omega)
    · rw [if_neg q]
      refine TP.snoc (TP.snoc h lt all st) (by omega) (fun i h1 h2 => by rw [show i = n by omega]; exact he) (Or.inr ?_)
      rw [all (n - 1) (by omega) (by omega)]
      intro z
      exact q (Option.some.inj z)
/-- where turns start -/
theorem TP.starts {ts : List (Bool × Nat × Nat)} {n : Nat} (h : TP ws ts n) : (∀ x ∈ ts, x.2.1 < n) ∧ ∀ i, i < n → ((∃ x ∈ ts, x.2.1 = i) ↔ bnd ws i = 0) := by
  induction h with
  | nil => exact ⟨fun x hx => by simp at hx, fun i hi => by omega⟩
  | snoc h lt all st ih =>
    rename_i ts s m m'
    obtain ⟨ih1, ih2⟩ := ih
    refine ⟨fun x hx => ?_, fun i hi => ?_⟩
    · rcases List.mem_append.mp hx with q | q
      · have := ih1 x q
        omega
      · rw [List.mem_singleton.mp q]
        exact lt
    · by_cases c : i < m
      · rw [← ih2 i c]
        constructor
        · rintro ⟨x, hx, e⟩
          rcases List.mem_append.mp hx with q | q
          · exact ⟨x, q, e⟩
          · rw [List.mem_singleton.mp q] at e
            simp at e
            omega
        · rintro ⟨x, hx, e⟩
          exact ⟨x, List.mem_append_left _ hx, e⟩
      · by_cases c2 : i = m
        · subst c2
          refine ⟨fun _ => ?_, fun _ => ⟨_, List.mem_append_right _ (List.mem_singleton.mpr rfl), rfl⟩⟩
          unfold bnd
          rw [if_neg]
          rintro ⟨h1, h2⟩
          rcases st with z | z
          · omega
          · rw [h2] at z
            exact z (all i (Nat.le_refl _) lt)
        · constructor
          · rintro ⟨x, hx, e⟩
            rcases List.mem_append.mp hx with q | q
            · have := ih1 x q
              omega
            · rw [List.mem_singleton.mp q] at e
              simp at e
              omega
          · intro z
            exfalso
            unfold bnd at z
            rw [if_pos ⟨by omega, by rw [all (i - 1) (by omega) (by omega), all i (by omega) hi]⟩] at z
            cases z

/-! ### a turn by its writes -/
def trun (r : Rule) : List Write → List Int → Parts → Parts
  | [], _, p => p
  | _ :: _, [], p => p
  | w :: ws, k :: ks, p => trun r ws ks (aw r (acN r k.toNat p) w.len w.mode)
theorem trun_snoc {r : Rule} {w : Write} {k : Int} : ∀ {tw : List Write} {ks : List Int} {p : Parts}, tw.length = ks.length → trun r (tw ++ [w]) (ks ++ [k]) p = aw r (acN r k.toNat (trun r tw ks p)) w.len w.mode
  | [], [], _, _ => rfl
  | [], _ :: _, _, h => by simp at h
  | _ :: _, [], _, h => by simp at h
  | x :: tw, y :: ks, p, h => trun_snoc (tw := tw) (ks := ks) (p := aw r (acN r y.toNat p) x.len x.mode) (by simpa using h)
theorem run_turn {s : Bool} {rest : List Write} {kr : List Int} {q : Int} : ∀ {tw : List Write} {kt : List Int} {p : Parts}, tw.length = kt.length → (∀ w ∈ tw, w.ep = s) →
    run cfg (tw ++ rest) (kt ++ kr) s p q = run cfg rest kr s (trun (cfg.rule s) tw kt p) q
  | [], [], _, _, _ => rfl
  | [], _ :: _, _, h, _ => by simp at h
  | _ :: _, [], _, h, _ => by simp at h
  | w :: tw, k :: kt, p, h, hs => by
    show (if w.ep = s then _ else _) = _
    rw [if_pos (hs w List.mem_cons_self)]
    exact run_turn (by simpa using h) fun x hx => hs x (List.mem_cons_of_mem _ hx)
theorem acN_first (r : Rule) (q : Int) : ∀ n, acN r n (first q) = first q
  | 0 => rfl
  | n + 1 => by
    show ac r (acN r n (first q)) = _
    rw [acN_first r q n, ac_first]

def qget (pr : Int × Int) (e : Bool) : Int := match e with
  | false => pr.1
  | true => pr.2
def qset (pr : Int × Int) (e : Bool) (v : Int) : Int × Int := match e with
  | false => (v, pr.2)
  | true => (pr.1, v)
theorem qget_qset {pr : Int × Int} {e : Bool} {v : Int} : qget (qset pr e v) e = v := by cases e <;> rfl
theorem qget_qset' {pr : Int × Int} {e : Bool} {v : Int} : qget (qset pr (!e) v) e = qget pr e := by cases e <;> rfl
/-- from a turn's beginning on -/
def runB (cfg : Cfg) (rest : List Write) (kr : List Int) (pr : Int × Int) : Int := match rest with
  | [] => 0
  | w :: r => run cfg (w :: r) kr w.ep (first (qget pr !w.ep)) (qget pr w.ep)
def At (cfg : Cfg) (ws : List Write) (m : Nat) (kp : List Int) (st : Int) (pr : Int × Int) : Prop := ∀ kr : List Int, kr.length = (ws.drop m).length → total cfg ws (kp ++ kr) = st + runB cfg (ws.drop m) kr pr
def quick0 (cfg : Cfg) : Int × Int := (cfg.p0.quick, cfg.p1.quick)
theorem qget0 (e : Bool) : qget (quick0 cfg) e = (cfg.pol e).quick := by cases e <;> rfl
theorem at_zero : At cfg ws 0 [] 0 (quick0 cfg) := by
  intro kr _
  rw [List.nil_append, List.drop_zero, Int.zero_add]
  unfold total runB
  cases ws with
  | nil => exact congrArg Prod.fst (at4_rest0 rfl)
  | cons w r =>
    show run cfg (w :: r) kr w.ep _ _ = run cfg (w :: r) kr w.ep _ _
    rw [show spk (w :: r) 0 = w.ep from rfl, qget0, qget0]
theorem at_end {kp : List Int} {st : Int} {pr : Int × Int} (h : At cfg ws ws.length kp st pr) : total cfg ws kp = st := by
  have a := h [] (by rw [List.drop_length]; rfl)
  rw [List.append_nil, List.drop_length] at a
  rw [a]
  show st + 0 = st
  omega
theorem drop_turn {s : Bool} {m m' : Nat} (t : IsTurn ws ws.length s m m') : ws.drop m = ((ws.drop m).take (m' - m)) ++ ws.drop m' ∧ ((ws.drop m).take (m' - m)).length = m' - m ∧ (∀ w ∈ (ws.drop m).take (m' - m), w.ep = s) ∧ (∀ w, (ws.drop m')[0]? = some w → w.ep = !s) := by
  have lt := t.lt
  have le := t.le
  refine ⟨?_, by rw [List.length_take, List.length_drop]; omega, fun w hw => ?_, fun w hw => ?_⟩
  · have := (List.take_append_drop (m' - m) (ws.drop m)).symm
    rw [List.drop_drop] at this
    rw [show m + (m' - m) = m' by omega] at this
    exact this
  · obtain ⟨i, hi⟩ := List.getElem?_of_mem hw
    have hl := (List.getElem?_eq_some_iff.mp hi).1
    rw [List.length_take, List.length_drop] at hl
    rw [List.getElem?_take_of_lt (by omega), List.getElem?_drop] at hi
    have a := t.all (m + i) (by omega) (by omega)
    unfold epAt at a
    rw [hi] at a
    exact Option.some.inj a
  · rw [List.getElem?_drop] at hw
    have hw : ws[m']? = some w := by simpa using hw
    rcases t.stop with q | q
    · have := (List.getElem?_eq_some_iff.mp hw).1
      omega
    · unfold epAt at q
      rw [hw] at q
      exact spk_flip fun e => q (by rw [← e]; rfl)
theorem at_turn {s : Bool} {m m' : Nat} {kp kt : List Int} {st stall left : Int} {pr : Int × Int} (t : IsTurn ws ws.length s m m') (a : At cfg ws m kp st pr) (hk : kt.length = m' - m)
    (e : at4 (cfg.rule s) (trun (cfg.rule s) ((ws.drop m).take (m' - m)) kt (first (qget pr !s))) = (stall, left)) : At cfg ws m' (kp ++ kt) (st + stall) (qset pr (!s) left) := by
  obtain ⟨d1, d2, d3, d4⟩ := drop_turn t
  intro kr hkr
  have lt := t.lt
  have le := t.le
  have a' := a (kt ++ kr) (by rw [List.length_append, hk, hkr, List.length_drop, List.length_drop]; omega)
  rw [List.append_assoc, a']
  generalize htw : (ws.drop m).take (m' - m) = tw at *
  rw [d1]
  -- the turn's first write
  have hb : runB cfg (tw ++ ws.drop m') (kt ++ kr) pr = run cfg (tw ++ ws.drop m') (kt ++ kr) s (first (qget pr !s)) (qget pr s) := by
    cases tw with
    | nil => simp at d2; omega
    | cons w r =>
      have := d3 w List.mem_cons_self
      show run cfg (w :: r ++ ws.drop m') _ w.ep (first (qget pr !w.ep)) (qget pr w.ep) = _
      rw [this]
  rw [hb, run_turn (by rw [d2, hk]) d3]
  -- what follows it
  generalize hp : trun (cfg.rule s) tw kt (first (qget pr !s)) = p at *
  generalize ws.drop m' = rest at *
  cases rest with
  | nil =>
    show st + (at4 (cfg.rule s) p).1 = st + stall + 0
    rw [e]
    simp
  | cons w r =>
    cases kr with
    | nil => simp at hkr
    | cons k kr =>
      have hw := d4 w rfl
      show st + (if w.ep = s then _ else _) = st + stall + run cfg (w :: r) (k :: kr) w.ep (first (qget (qset pr (!s) left) !w.ep)) (qget (qset pr (!s) left) w.ep)
      rw [if_neg (by rw [hw]; cases s <;> simp), hw, Bool.not_not, qget_qset', qget_qset, e]
      show _ = st + stall + (if w.ep = !s then _ else _)
      rw [if_pos hw, acN_first]
      simp only
      omega
theorem planP_split {s : Bool} {m m' : Nat} {ks : List Int} (t : IsTurn ws ws.length s m m') (h : PlanP ws m' ks) : PlanP ws m (ks.take m) ∧ TurnOk (m' - m) (ks.drop m) := by
  obtain ⟨h1, h2⟩ := h
  have lt := t.lt
  refine ⟨⟨by rw [List.length_take]; omega, fun i k hk => ?_⟩, ⟨by rw [List.length_drop]; omega, fun i k hk => ?_⟩⟩
  · have hi := (List.getElem?_eq_some_iff.mp hk).1
    rw [List.length_take] at hi
    rw [List.getElem?_take_of_lt (by omega)] at hk
    exact h2 i k hk
  · rw [List.getElem?_drop] at hk
    have a := h2 (m + i) k hk
    have hi := (List.getElem?_eq_some_iff.mp hk).1
    unfold bnd at a
    by_cases c : 0 < i
    · rw [if_pos c]
      refine ⟨a.1, Int.le_trans a.2 ?_⟩
      split <;> omega
    · rw [if_neg c]
      have ei : i = 0 := by omega
      subst ei
      rw [if_neg] at a
      · exact a
      · rintro ⟨q1, q2⟩
        rcases t.start with z | z
        · omega
        · rw [Nat.add_zero] at q2
          rw [q2] at z
          exact z (t.all m (Nat.le_refl _) lt)
theorem planP_join {s : Bool} {m m' : Nat} {kp kt : List Int} (t : IsTurn ws ws.length s m m') (h : PlanP ws m kp) (h' : TurnOk (m' - m) kt) : PlanP ws m' (kp ++ kt) := by
  obtain ⟨h1, h2⟩ := h
  obtain ⟨h3, h4⟩ := h'
  have lt := t.lt
  refine ⟨by rw [List.length_append]; omega, fun i k hk => ?_⟩
  by_cases c : i < m
  · rw [List.getElem?_append_left (by omega)] at hk
    exact h2 i k hk
  · rw [List.getElem?_append_right (by omega)] at hk
    have a := h4 _ k hk
    have hi := (List.getElem?_eq_some_iff.mp hk).1
    by_cases c2 : 0 < i - kp.length
    · rw [if_pos c2] at a
      unfold bnd
      rw [if_pos ⟨by omega, by rw [t.all (i - 1) (by omega) (by omega), t.all i (by omega) (by omega)]⟩]
      exact a
    · rw [if_neg c2] at a
      unfold bnd
      refine ⟨a.1, Int.le_trans a.2 ?_⟩
      split <;> omega

/-! ### the table of a turn's states -/
/-- behind i writes of a turn: each state by a plan, and every plan's state is there -/
structure Reach (r : Rule) (tw : List Write) (q : Int) (i : Nat) (kvs : List (Parts × List Int)) : Prop where
  sound : ∀ x ∈ kvs, TurnOk i x.2 ∧ trun r (tw.take i) x.2 (first q) = x.1
  all : ∀ ks, TurnOk i ks → ∃ x ∈ kvs, x.1 = trun r (tw.take i) ks (first q)
theorem reach0 {r : Rule} {tw : List Write} {q : Int} : Reach r tw q 0 [(first q, [])] :=
  ⟨fun x hx => by rw [List.mem_singleton.mp hx]; exact ⟨⟨rfl, fun i k h => by simp at h⟩, rfl⟩, fun ks h => ⟨_, List.mem_singleton.mpr rfl, by
    have : ks = [] := List.length_eq_zero_iff.mp h.1
    subst this
    rfl⟩⟩
theorem turnOk_snoc {n : Nat} {ks : List Int} {k : Int} (h : TurnOk n ks) (hk : 0 ≤ k ∧ k ≤ (if 0 < n then 2 else 0)) : TurnOk (n + 1) (ks ++ [k]) := by
  obtain ⟨h1, h2⟩ := h
  refine ⟨by simp [h1], fun i x hx => ?_⟩
  by_cases c : i < n
  · rw [List.getElem?_append_left (by omega)] at hx
    exact h2 i x hx
  · rw [List.getElem?_append_right (by omega)] at hx
    have hi := (List.getElem?_eq_some_iff.mp hx).1
    have e0 : i - ks.length = 0 := by simpa using hi
    rw [e0] at hx
    have ex : k = x := by simpa using hx
    have ei : i = n := by omega
    subst ex ei
    exact hk
theorem turnOk_init {n : Nat} {ks : List Int} (h : TurnOk (n + 1) ks) : ∃ ks' k, ks = ks' ++ [k] ∧ TurnOk n ks' ∧ 0 ≤ k ∧ k ≤ (if 0 < n then 2 else 0) := by
  obtain ⟨h1, h2⟩ := h
  have hne : ks ≠ [] := by
    rintro rfl
    simp at h1
  have hd : ks.dropLast ++ [ks.getLast hne] = ks := List.dropLast_concat_getLast hne
  have hl : ks.dropLast.length = n := by rw [List.length_dropLast]; omega
  refine ⟨ks.dropLast, ks.getLast hne, hd.symm, ⟨hl, fun i k hk => ?_⟩, h2 n _ (last_at h1 hne)⟩
  refine h2 i k ?_
  have hi := (List.getElem?_eq_some_iff.mp hk).1
  rw [← hd, List.getElem?_append_left hi]
  exact hk
/-- the ways of clearing ahead of a write: (number, state) -/
structure Ways (r : Rule) (n : Nat) (p : Parts) (l : List (Int × Parts)) : Prop where
  sound : ∀ x ∈ l, 0 ≤ x.1 ∧ x.1 ≤ (if 0 < n then 2 else 0) ∧ x.2 = acN r x.1.toNat p
  all : ∀ k : Int, 0 ≤ k → k ≤ (if 0 < n then 2 else 0) → ∃ x ∈ l, x.2 = acN r k.toNat p
theorem reach_step {r : Rule} {tw : List Write} {q : Int} {i : Nat} {kvs kvs' : List (Parts × List Int)} {w : Write} (h : Reach r tw q i kvs) (hw : tw[i]? = some w) (ways : Parts → List (Int × Parts)) (hways : ∀ x ∈ kvs, Ways r i x.1 (ways x.1))
    (s : ∀ y ∈ kvs', ∃ x ∈ kvs, ∃ v ∈ ways x.1, y = (aw r v.2 w.len w.mode, x.2 ++ [v.1])) (c : ∀ x ∈ kvs, ∀ v ∈ ways x.1, ∃ y ∈ kvs', y.1 = aw r v.2 w.len w.mode) : Reach r tw q (i + 1) kvs' := by
  have hi := (List.getElem?_eq_some_iff.mp hw).1
  have et : tw.take (i + 1) = tw.take i ++ [w] := by rw [List.take_add_one, hw]; rfl
  have lt : (tw.take i).length = i := by rw [List.length_take]; omega
  refine ⟨fun y hy => ?_, fun ks hk => ?_⟩
  · obtain ⟨x, hx, v, hv, rfl⟩ := s y hy
    obtain ⟨t1, t2⟩ := h.sound x hx
    obtain ⟨v1, v2, v3⟩ := (hways x hx).sound v hv
    refine ⟨turnOk_snoc t1 ⟨v1, v2⟩, ?_⟩
    rw [et]
    simp only
    rw [trun_snoc (by rw [lt, t1.1]), t2, v3]
  · obtain ⟨ks', k, rfl, t1, k0, k1⟩ := turnOk_init hk
    obtain ⟨x, hx, ex⟩ := h.all ks' t1
    obtain ⟨v, hv, ev⟩ := (hways x hx).all k k0 k1
    obtain ⟨y, hy, ey⟩ := c x hx v hv
    refine ⟨y, hy, ?_⟩
    rw [ey, ev, ex, et, trun_snoc (by rw [lt, t1.1])]
/-- a turn's ends -/
structure EndsOf (r : Rule) (tw : List Write) (q : Int) (ends : List ((Int × Int) × List Int)) : Prop where
  sound : ∀ x ∈ ends, TurnOk tw.length x.2 ∧ at4 r (trun r tw x.2 (first q)) = x.1
  all : ∀ ks, TurnOk tw.length ks → ∃ x ∈ ends, x.1 = at4 r (trun r tw ks (first q))
theorem ends_of {r : Rule} {tw : List Write} {q : Int} {kvs : List (Parts × List Int)} {ends : List ((Int × Int) × List Int)} (h : Reach r tw q tw.length kvs) (s : ∀ y ∈ ends, ∃ x ∈ kvs, y = (at4 r x.1, x.2)) (c : ∀ x ∈ kvs, ∃ y ∈ ends, y.1 = at4 r x.1) : EndsOf r tw q ends := by
  have et : tw.take tw.length = tw := List.take_length
  refine ⟨fun y hy => ?_, fun ks hk => ?_⟩
  · obtain ⟨x, hx, rfl⟩ := s y hy
    obtain ⟨t1, t2⟩ := h.sound x hx
    rw [et] at t2
    exact ⟨t1, by simp only; rw [t2]⟩
  · obtain ⟨x, hx, ex⟩ := h.all ks hk
    obtain ⟨y, hy, ey⟩ := c x hx
    rw [et] at ex
    exact ⟨y, hy, by rw [ey, ex]⟩
/-! ### the table of a conversation -/
structure Best (cfg : Cfg) (ws : List Write) (sg : Int) (m : Nat) (kvs : List ((Int × Int) × (Int × List Int))) : Prop where
  sound : ∀ x ∈ kvs, PlanP ws m x.2.2 ∧ At cfg ws m x.2.2 x.2.1 x.1
  all : ∀ ks, PlanP ws m ks → ∃ x ∈ kvs, ∃ st, At cfg ws m ks st x.1 ∧ sg * x.2.1 ≤ sg * st
theorem best_start {sg : Int} : Best cfg ws sg 0 [(quick0 cfg, (0, []))] :=
  ⟨fun x hx => by rw [List.mem_singleton.mp hx]; exact ⟨⟨rfl, fun i k h => by simp at h⟩, at_zero⟩, fun ks h => ⟨_, List.mem_singleton.mpr rfl, 0, by
    have : ks = [] := List.length_eq_zero_iff.mp h.1
    subst this
    exact ⟨at_zero, Int.le_refl _⟩⟩⟩
theorem best_step {sg : Int} {s : Bool} {m m' : Nat} {kvs kvs' : List ((Int × Int) × (Int × List Int))} (t : IsTurn ws ws.length s m m') (h : Best cfg ws sg m kvs) (ends : (Int × Int) → List ((Int × Int) × List Int))
    (he : ∀ x ∈ kvs, EndsOf (cfg.rule s) ((ws.drop m).take (m' - m)) (qget x.1 !s) (ends x.1))
    (sd : ∀ y ∈ kvs', ∃ x ∈ kvs, ∃ v ∈ ends x.1, y = (qset x.1 (!s) v.1.2, (x.2.1 + v.1.1, x.2.2 ++ v.2)))
    (c : ∀ x ∈ kvs, ∀ v ∈ ends x.1, ∃ y ∈ kvs', y.1 = qset x.1 (!s) v.1.2 ∧ sg * y.2.1 ≤ sg * (x.2.1 + v.1.1)) : Best cfg ws sg m' kvs' := by
  obtain ⟨d1, d2, d3, d4⟩ := drop_turn t
  refine ⟨fun y hy => ?_, fun ks hk => ?_⟩
  · obtain ⟨x, hx, v, hv, rfl⟩ := sd y hy
    obtain ⟨p1, p2⟩ := h.sound x hx
    obtain ⟨t1, t2⟩ := (he x hx).sound v hv
    rw [d2] at t1
    exact ⟨planP_join t p1 t1, at_turn t p2 t1.1 t2⟩
  · obtain ⟨p1, p2⟩ := planP_split t hk
    obtain ⟨x, hx, st, a1, a2⟩ := h.all _ p1
    obtain ⟨v, hv, ev⟩ := (he x hx).all (ks.drop m) (by rw [d2]; exact p2)
    obtain ⟨y, hy, ey, le⟩ := c x hx v hv
    refine ⟨y, hy, st + v.1.1, ?_, ?_⟩
    · rw [ey]
      have := at_turn (stall := v.1.1) (left := v.1.2) t a1 p2.1 (by rw [← ev])
      rwa [List.take_append_drop] at this
    · rw [Int.mul_add]
      rw [Int.mul_add] at le
      omega
/-- the best row of the last table is the best of all orders -/
theorem best_final {sg : Int} (hsg : sg = 1 ∨ sg = -1) {kvs : List ((Int × Int) × (Int × List Int))} (h : Best cfg ws sg ws.length kvs) {x : (Int × Int) × (Int × List Int)} (hx : x ∈ kvs) (hm : ∀ y ∈ kvs, sg * x.2.1 ≤ sg * y.2.1) :
    PlanP ws ws.length x.2.2 ∧ total cfg ws x.2.2 = x.2.1 ∧ x.2.1 = best0 cfg sg ws := by
  obtain ⟨p, a⟩ := h.sound x hx
  have e := at_end a
  refine ⟨p, e, ?_⟩
  have l1 := total_le (cfg := cfg) hsg (planP_iff.mpr p)
  obtain ⟨ks, k1, k2⟩ := total_ex (cfg := cfg) (sg := sg) (ws := ws)
  obtain ⟨y, hy, st, a1, a2⟩ := h.all ks (planP_iff.mp k1)
  have e2 := at_end a1
  have := hm y hy
  refine sg_inj hsg ?_
  rw [e] at l1
  rw [k2] at e2
  rw [e2]
  rw [e2] at l1
  omega
end
end LW

/-! The tables, by keys and numbers (no list of ways told). -/
namespace LW
/-- a step of the table: s, each new row is from an old one by a number; c, all are there -/
theorem reach_step2 {r : Rule} {tw : List Write} {q : Int} {i : Nat} {kvs kvs' : List (Parts × List Int)} {w : Write} (h : Reach r tw q i kvs) (hw : tw[i]? = some w)
    (s : ∀ y ∈ kvs', ∃ x ∈ kvs, ∃ k : Int, 0 ≤ k ∧ k ≤ (if 0 < i then 2 else 0) ∧ y = (aw r (acN r k.toNat x.1) w.len w.mode, x.2 ++ [k]))
    (c : ∀ x ∈ kvs, ∀ k : Int, 0 ≤ k → k ≤ (if 0 < i then 2 else 0) → ∃ y ∈ kvs', y.1 = aw r (acN r k.toNat x.1) w.len w.mode) : Reach r tw q (i + 1) kvs' := by
  have hi := (List.getElem?_eq_some_iff.mp hw).1
  have et : tw.take (i + 1) = tw.take i ++ [w] := by rw [List.take_add_one, hw]; rfl
  have lt : (tw.take i).length = i := by rw [List.length_take]; omega
  refine ⟨fun y hy => ?_, fun ks hk => ?_⟩
  · obtain ⟨x, hx, k, k0, k1, rfl⟩ := s y hy
    obtain ⟨t1, t2⟩ := h.sound x hx
    refine ⟨turnOk_snoc t1 ⟨k0, k1⟩, ?_⟩
    rw [et]
    simp only
    rw [trun_snoc (by rw [lt, t1.1]), t2]
  · obtain ⟨ks', k, rfl, t1, k0, k1⟩ := turnOk_init hk
    obtain ⟨x, hx, ex⟩ := h.all ks' t1
    obtain ⟨y, hy, ey⟩ := c x hx k k0 k1
    refine ⟨y, hy, ?_⟩
    rw [ey, ex, et, trun_snoc (by rw [lt, t1.1])]
/-- a step of the conversation's table: the ends of the turn by each row -/
theorem best_step2 {cfg : Cfg} {ws : List Write} {sg : Int} {s : Bool} {m m' : Nat} {kvs kvs' : List ((Int × Int) × (Int × List Int))} (t : IsTurn ws ws.length s m m') (h : Best cfg ws sg m kvs)
    (sd : ∀ y ∈ kvs', ∃ x ∈ kvs, ∃ ends, EndsOf (cfg.rule s) ((ws.drop m).take (m' - m)) (qget x.1 !s) ends ∧ ∃ v ∈ ends, y = (qset x.1 (!s) v.1.2, (x.2.1 + v.1.1, x.2.2 ++ v.2)))
    (c : ∀ x ∈ kvs, ∃ ends, EndsOf (cfg.rule s) ((ws.drop m).take (m' - m)) (qget x.1 !s) ends ∧ ∀ v ∈ ends, ∃ y ∈ kvs', y.1 = qset x.1 (!s) v.1.2 ∧ sg * y.2.1 ≤ sg * (x.2.1 + v.1.1)) : Best cfg ws sg m' kvs' := by
  obtain ⟨d1, d2, d3, d4⟩ := drop_turn t
  refine ⟨fun y hy => ?_, fun ks hk => ?_⟩
  · obtain ⟨x, hx, ends, he, v, hv, rfl⟩ := sd y hy
    obtain ⟨p1, p2⟩ := h.sound x hx
    obtain ⟨t1, t2⟩ := he.sound v hv
    rw [d2] at t1
    exact ⟨planP_join t p1 t1, at_turn t p2 t1.1 t2⟩
  · obtain ⟨p1, p2⟩ := planP_split t hk
    obtain ⟨x, hx, st, a1, a2⟩ := h.all _ p1
    obtain ⟨ends, he, hv⟩ := c x hx
    obtain ⟨v, hv1, ev⟩ := he.all (ks.drop m) (by rw [d2]; exact p2)
    obtain ⟨y, hy, ey, le⟩ := hv v hv1
    refine ⟨y, hy, st + v.1.1, ?_, ?_⟩
    · rw [ey]
      have := at_turn (stall := v.1.1) (left := v.1.2) t a1 p2.1 (by rw [← ev])
      rwa [List.take_append_drop] at this
    · rw [Int.mul_add]
      rw [Int.mul_add] at le
      omega
end LW

/-! Latewords, the plain part 10: what was sent and how much of it arrived tell a scene; the scenes are not too many. -/
namespace LW

/-! ### a side, by what it sent (M) and what arrived at it (N) -/
def npos (N : Way) : Int := (N.map fun x => if x.1 = 0 then (0 : Int) else 1).sum
def lastc (M : Way) : Int := (M.getLast?.map (·.2)).getD 0
def pendF (size c : Int) (a : Int × Int) (N : Way) : Int × Int := N.foldl (fun a x => (a.1 + x.1, if c < a.1 + x.1 then a.2 + isF size x.1 else a.2)) a
def pend (size c : Int) (N : Way) : Int := (pendF size c (0, 0) N).2
def markF (size : Int) (a : Int × Int) (M : Way) : Int × Int := M.foldl (fun a x => (a.1 + x.1, if 0 < x.1 ∧ x.1 < size then a.1 + x.1 else a.2)) a
def markOf (size : Int) (M : Way) : Int := (markF size (0, 0) M).2
def sideOf (size g : Int) (ck : Bool) (M N : Way) : Side :=
  ⟨g - cnt M, ck && decide (g - cnt M ≠ 0), cnt M, ackd 0 N, cnt N, pend size (lastc M) N, npos N, markOf size M⟩
section
variable {size : Int}
theorem cnt_snoc {N : Way} {x : Int × Int} : cnt (N ++ [x]) = cnt N + x.1 := by
  rw [cnt_append, cnt_cons, cnt_nil]
  omega
theorem npos_snoc {N : Way} {x : Int × Int} : npos (N ++ [x]) = npos N + (if x.1 = 0 then 0 else 1) := by
  unfold npos
  simp
theorem lastc_snoc {M : Way} {x : Int × Int} : lastc (M ++ [x]) = x.2 := by
  unfold lastc
  simp
theorem cnt_nn : ∀ {A : Way}, (∀ x ∈ A, 0 ≤ x.1) → 0 ≤ cnt A
  | [], _ => Int.le_refl _
  | x :: A, h => by
    rw [cnt_cons]
    have := cnt_nn (A := A) fun y hy => h y (List.mem_cons_of_mem _ hy)
    have := h x List.mem_cons_self
    omega
theorem pendF_1 {c : Int} : ∀ {N : Way} {a : Int × Int}, (pendF size c a N).1 = a.1 + cnt N
  | [], a => by rw [cnt_nil]; exact (Int.add_zero _).symm
  | x :: N, a => by
    have := pendF_1 (c := c) (N := N) (a := (a.1 + x.1, if c < a.1 + x.1 then a.2 + isF size x.1 else a.2))
    rw [cnt_cons]
    show (pendF size c _ N).1 = _
    rw [this]
    simp only
    omega
theorem pendF_2 {c : Int} : ∀ {N : Way} {a : Int × Int}, (∀ x ∈ N, 0 ≤ x.1) → a.1 + cnt N ≤ c → (pendF size c a N).2 = a.2
  | [], _, _, _ => rfl
  | x :: N, a, h, hc => by
    have hN := fun y hy => h y (List.mem_cons_of_mem x hy)
    have nn := cnt_nn hN
    rw [cnt_cons] at hc
    show (pendF size c (a.1 + x.1, if c < a.1 + x.1 then a.2 + isF size x.1 else a.2) N).2 = _
    rw [pendF_2 hN (by simp only; omega)]
    simp only
    rw [if_neg (by omega)]
theorem pend_snoc {c : Int} {N : Way} {x : Int × Int} : pend size c (N ++ [x]) = if c < cnt N + x.1 then pend size c N + isF size x.1 else pend size c N := by
  unfold pend
  have e : pendF size c (0, 0) (N ++ [x]) = ((pendF size c (0, 0) N).1 + x.1, if c < (pendF size c (0, 0) N).1 + x.1 then (pendF size c (0, 0) N).2 + isF size x.1 else (pendF size c (0, 0) N).2) := by
    unfold pendF
    rw [List.foldl_append]
    rfl
  rw [e, pendF_1]
  simp only [Int.zero_add]
theorem pend_self {N : Way} (h : ∀ x ∈ N, 0 ≤ x.1) : pend size (cnt N) N = 0 := by
  unfold pend
  rw [pendF_2 h (by simp)]
theorem isF_zero (hz : 1 ≤ size) : isF size 0 = 0 := isF_neg (by omega)
theorem pend_zero (hz : 1 ≤ size) {c : Int} {N : Way} {x : Int × Int} (h : x.1 = 0) : pend size c (N ++ [x]) = pend size c N := by
  rw [pend_snoc, h, isF_zero hz]
  split <;> omega
theorem markF_1 : ∀ {M : Way} {a : Int × Int}, (markF size a M).1 = a.1 + cnt M
  | [], a => by rw [cnt_nil]; exact (Int.add_zero _).symm
  | x :: M, a => by
    have := markF_1 (M := M) (a := (a.1 + x.1, if 0 < x.1 ∧ x.1 < size then a.1 + x.1 else a.2))
    rw [cnt_cons]
    show (markF size _ M).1 = _
    rw [this]
    simp only
    omega
theorem mark_snoc {M : Way} {x : Int × Int} : markOf size (M ++ [x]) = if 0 < x.1 ∧ x.1 < size then cnt M + x.1 else markOf size M := by
  unfold markOf
  have e : markF size (0, 0) (M ++ [x]) = ((markF size (0, 0) M).1 + x.1, if 0 < x.1 ∧ x.1 < size then (markF size (0, 0) M).1 + x.1 else (markF size (0, 0) M).2) := by
    unfold markF
    rw [List.foldl_append]
    rfl
  rw [e, markF_1]
  simp only [Int.zero_add]
theorem ackd_snoc {c : Int} {N : Way} {x : Int × Int} : ackd c (N ++ [x]) = max (ackd c N) x.2 := by
  rw [ackd_append]
  rfl

/-- something is sent -/
theorem sideOf_sent {g c : Int} {ck : Bool} {M N : Way} (hN : ∀ x ∈ N, 0 ≤ x.1) (h : c = 0 ∨ ck = false ∨ (0 < c ∧ c < size ∧ g - cnt M = c)) :
    (sideOf size g ck M N).sent size c = sideOf size g ck (M ++ [(c, cnt N)]) N := by
  unfold Side.sent sideOf
  simp only [cnt_snoc, lastc_snoc, pend_self hN, mark_snoc]
  congr 1
  · omega
  · rcases h with h | h | ⟨h1, h2, h3⟩
    · subst h
      simp
    · subst h
      simp
    · rw [if_pos ⟨h1, h2⟩]
      have : ¬ (g - (cnt M + c) ≠ 0) := by omega
      simp [this]

/-! ### the listener hears -/
def hear (size every quick : Int) (M N : Way) (x : Int × Int) : Way :=
  if x.1 = 0 then M
  else if npos N + 1 ≤ quick ∨ (x.1 = size ∧ pend size (lastc M) N + isF size x.1 = every) then M ++ [(0, cnt N + x.1)] else M
def hearAll (size every quick : Int) : Way → Way → Way → Way
  | M, _, [] => M
  | M, N, x :: r => hearAll size every quick (hear size every quick M N x) (N ++ [x]) r
variable {every quick : Int}
theorem hearAll_append : ∀ {A C M N : Way}, hearAll size every quick M N (A ++ C) = hearAll size every quick (hearAll size every quick M N A) (N ++ A) C
  | [], C, M, N => by rw [List.append_nil]; rfl
  | x :: A, C, M, N => by
    show hearAll size every quick (hear size every quick M N x) (N ++ [x]) (A ++ C) = hearAll size every quick (hearAll size every quick (hear size every quick M N x) (N ++ [x]) A) (N ++ x :: A) C
    rw [hearAll_append, List.append_assoc]
    rfl
theorem hearAll_zero : ∀ {A M N : Way}, (∀ x ∈ A, x.1 = 0) → hearAll size every quick M N A = M
  | [], _, _, _ => rfl
  | x :: A, M, N, h => by
    show hearAll size every quick (hear size every quick M N x) (N ++ [x]) A = M
    rw [hearAll_zero fun y hy => h y (List.mem_cons_of_mem _ hy)]
    unfold hear
    rw [if_pos (h x List.mem_cons_self)]
theorem hear_seen {c : Int} {M N : Way} {x : Int × Int} (hc : c ≤ cnt N) (hx : 0 ≤ x.1) : (hear size every quick M N x).filter (fun y => decide (y.2 ≤ c)) = M.filter (fun y => decide (y.2 ≤ c)) := by
  unfold hear
  split
  · rfl
  · split
    · rw [List.filter_append]
      have : ¬ (cnt N + x.1 ≤ c) := by omega
      simp [this]
    · rfl
theorem hearAll_seen {c : Int} : ∀ {A M N : Way}, c ≤ cnt N → (∀ x ∈ A, 0 ≤ x.1) → (hearAll size every quick M N A).filter (fun y => decide (y.2 ≤ c)) = M.filter (fun y => decide (y.2 ≤ c))
  | [], _, _, _, _ => rfl
  | x :: A, M, N, hc, h => by
    have hx := h x List.mem_cons_self
    show (hearAll size every quick (hear size every quick M N x) (N ++ [x]) A).filter _ = _
    rw [hearAll_seen (by rw [cnt_snoc]; omega) fun y hy => h y (List.mem_cons_of_mem _ hy), hear_seen hc hx]

theorem arrA_of {g : Int} {ck : Bool} {D W N : Way} {x : Int × Int} (hz : 1 ≤ size) (hN : ∀ y ∈ N, 0 ≤ y.1) (hx : 0 ≤ x.1) (hl : lastc (D ++ W) ≤ cnt N) :
    D ++ (arrA size every quick (sideOf size g ck (D ++ W) N) W x).2 = hear size every quick (D ++ W) N x ∧
    (arrA size every quick (sideOf size g ck (D ++ W) N) W x).1 = sideOf size g ck (hear size every quick (D ++ W) N x) (N ++ [x]) := by
  have hN' : ∀ y ∈ N ++ [x], 0 ≤ y.1 := by
    intro y hy
    rcases List.mem_append.mp hy with q | q
    · exact hN y q
    · rw [List.mem_singleton.mp q]
      exact hx
  unfold arrA hear
  by_cases h : x.1 = 0
  · simp only [if_pos h]
    refine ⟨trivial, ?_⟩
    unfold sideOf
    simp only [cnt_snoc, npos_snoc, ackd_snoc, pend_zero hz h, h, Int.add_zero, if_true]
  · simp only [if_neg h]
    have e2 : ({ covered := max (sideOf size g ck (D ++ W) N).covered x.2, waiting := (sideOf size g ck (D ++ W) N).waiting, corked := (sideOf size g ck (D ++ W) N).corked, out := (sideOf size g ck (D ++ W) N).out, heard := (sideOf size g ck (D ++ W) N).heard + x.1, fulls := (sideOf size g ck (D ++ W) N).fulls + isF size x.1, arrived := (sideOf size g ck (D ++ W) N).arrived + 1, mark := (sideOf size g ck (D ++ W) N).mark } : Side) = sideOf size g ck (D ++ W) (N ++ [x]) := by
      unfold sideOf
      simp only [cnt_snoc, npos_snoc, ackd_snoc, pend_snoc, if_neg h]
      rw [if_pos (by omega)]
    have ea : (sideOf size g ck (D ++ W) N).arrived = npos N := rfl
    have ef : (sideOf size g ck (D ++ W) N).fulls = pend size (lastc (D ++ W)) N := rfl
    have eh : (sideOf size g ck (D ++ W) N).heard = cnt N := rfl
    rw [e2, ea, ef, eh]
    split
    · refine ⟨by simp, ?_⟩
      rw [sideOf_sent hN' (Or.inl rfl), cnt_snoc]
    · exact ⟨rfl, rfl⟩
theorem cov_of {g : Int} {ck : Bool} {M N : Way} {x : Int × Int} (hz : 1 ≤ size) (h : x.1 = 0) : ({ sideOf size g ck M N with covered := max (sideOf size g ck M N).covered x.2 } : Side) = sideOf size g ck M (N ++ [x]) := by
  unfold sideOf
  simp only [cnt_snoc, npos_snoc, ackd_snoc, pend_zero hz h, h, Int.add_zero, if_true]
theorem fullN_of {g : Int} {D N A : Way} (hN : ∀ y ∈ N, 0 ≤ y.1) : ∀ n : Nat, fullN size n (sideOf size g false (D ++ A) N, A) = (sideOf size g false (D ++ A ++ List.replicate n (size, cnt N)) N, A ++ List.replicate n (size, cnt N))
  | 0 => by simp [fullN]
  | n + 1 => by
    unfold fullN
    rw [fullN_of hN n]
    simp only
    rw [sideOf_sent hN (Or.inr (Or.inl rfl)), List.replicate_succ', List.append_assoc, List.append_assoc, List.append_assoc]
    rfl
end
end LW

/-! Latewords, the plain part 11: the histories of a turn. -/
namespace LW

structure Hi (size every quick : Int) (S T : Side) (A B : Way) (Gs Gt : Int) (ks kt : Bool) (Ds Dt Ls Lt : Way) : Prop where
  sS : S = sideOf size Gs ks (Ds ++ A) Dt
  sT : T = sideOf size Gt kt (Dt ++ B) Ds
  ls : Ls = Ds ++ A
  lt : Lt = hearAll size every quick (Dt ++ B) Ds A
  nA : ∀ x ∈ Ds ++ A, 0 ≤ x.1
  nB : ∀ x ∈ Dt ++ B, 0 ≤ x.1
  cA : ∀ x ∈ Ds ++ A, x.2 ≤ cnt Dt
  cB : ∀ x ∈ Dt ++ B, x.2 ≤ cnt Ds

/-- full segments of a write; a rest; the timer's acknowledgment -/
def gW (size every quick Gs Gt : Int) (g : Way × Way) : Way × Way :=
  let X := List.replicate ((Gs - cnt g.1) / size).toNat (size, Gt)
  (g.1 ++ X, hearAll size every quick g.2 g.1 X)
def gF (size every quick Gs Gt : Int) (g : Way × Way) : Way × Way :=
  let x := (Gs - cnt g.1, Gt)
  (g.1 ++ [x], hear size every quick g.2 g.1 x)
def gT (g : Way × Way) : Way × Way := (g.1, g.2 ++ [(0, cnt g.1)])

section
variable {size every quick Gs Gt b : Int} {hold : Hold} {S T : Side} {A B : Way} {ks kt : Bool} {Ds Dt Ls Lt : Way}

theorem snoc_all {P : Int × Int → Prop} {L : Way} {x : Int × Int} (h : ∀ y ∈ L, P y) (hx : P x) : ∀ y ∈ L ++ [x], P y := by
  intro y hy
  rcases List.mem_append.mp hy with q | q
  · exact h y q
  · rw [List.mem_singleton.mp q]
    exact hx
theorem lastc_le {M : Way} {c : Int} (hc : 0 ≤ c) (h : ∀ x ∈ M, x.2 ≤ c) : lastc M ≤ c := by
  unfold lastc
  cases e : M.getLast? with
  | none => exact hc
  | some y => exact h y (List.mem_of_getLast? e)
theorem Hi.wait (h : Hi size every quick S T A B Gs Gt ks kt Ds Dt Ls Lt) : S.waiting = Gs - cnt Ls := by
  rw [h.sS, h.ls]
  rfl
theorem Hi.nD (h : Hi size every quick S T A B Gs Gt ks kt Ds Dt Ls Lt) : (∀ x ∈ Ds, 0 ≤ x.1) ∧ ∀ x ∈ Dt, 0 ≤ x.1 := ⟨fun x hx => h.nA x (List.mem_append_left _ hx), fun x hx => h.nB x (List.mem_append_left _ hx)⟩

theorem hi_arrA {x : Int × Int} (hz : 1 ≤ size) (h : Hi size every quick S T (x :: A) B Gs Gt ks kt Ds Dt Ls Lt) :
    Hi size every quick S (arrA size every quick T B x).1 A (arrA size every quick T B x).2 Gs Gt ks kt (Ds ++ [x]) Dt Ls Lt := by
  obtain ⟨nDs, nDt⟩ := h.nD
  have x0 := h.nA x (List.mem_append_right _ List.mem_cons_self)
  have hl := lastc_le (cnt_nn nDs) h.cB
  have ap : Ds ++ [x] ++ A = Ds ++ x :: A := by simp
  obtain ⟨e1, e2⟩ := arrA_of (size := size) (every := every) (quick := quick) (g := Gt) (ck := kt) (D := Dt) (W := B) (N := Ds) (x := x) hz nDs x0 hl
  rw [h.sT]
  have hm : ∀ y ∈ hear size every quick (Dt ++ B) Ds x, 0 ≤ y.1 ∧ y.2 ≤ cnt Ds + x.1 := by
    intro y hy
    have old : y ∈ Dt ++ B → 0 ≤ y.1 ∧ y.2 ≤ cnt Ds + x.1 := fun q => ⟨h.nB y q, by have := h.cB y q; omega⟩
    unfold hear at hy
    split at hy
    · exact old hy
    · split at hy
      · rcases List.mem_append.mp hy with q | q
        · exact old q
        · rw [List.mem_singleton.mp q]
          exact ⟨Int.le_refl _, Int.le_refl _⟩
      · exact old hy
  refine ⟨by rw [ap]; exact h.sS, ?_, by rw [ap]; exact h.ls, ?_, by rw [ap]; exact h.nA, ?_, by rw [ap]; exact h.cA, ?_⟩
  · rw [e1]
    exact e2
  · rw [e1]
    exact h.lt
  · rw [e1]
    exact fun y hy => (hm y hy).1
  · rw [e1, cnt_snoc]
    exact fun y hy => (hm y hy).2

/-- a rest is sent -/
theorem hi_flush (h : Hi size every quick S T A B Gs Gt ks kt Ds Dt Ls Lt) (hg : cnt Dt = Gt) (hw : 0 < S.waiting) (hs : S.waiting < size) :
    Hi size every quick (S.sent size S.waiting) T (A ++ [(S.waiting, S.heard)]) B Gs Gt ks kt Ds Dt (gF size every quick Gs Gt (Ls, Lt)).1 (gF size every quick Gs Gt (Ls, Lt)).2 := by
  obtain ⟨nDs, nDt⟩ := h.nD
  have w := h.wait
  have eh : S.heard = Gt := by rw [h.sS]; exact hg
  have ew : S.waiting = Gs - cnt (Ds ++ A) := by rw [w, h.ls]
  have ap : Ds ++ (A ++ [(S.waiting, S.heard)]) = Ds ++ A ++ [(S.waiting, S.heard)] := by simp
  refine ⟨?_, h.sT, ?_, ?_, ?_, h.nB, ?_, h.cB⟩
  · rw [ap]
    have e := sideOf_sent (size := size) (g := Gs) (c := S.waiting) (ck := ks) (M := Ds ++ A) (N := Dt) nDt (Or.inr (Or.inr ⟨hw, hs, ew.symm⟩))
    rw [← h.sS] at e
    rw [e, eh, hg]
  · rw [ap, eh, ← h.ls, w]
    rfl
  · rw [hearAll_append, ← h.lt, ← h.ls, eh, w]
    rfl
  · rw [ap]
    exact snoc_all h.nA (by simp only; omega)
  · rw [ap]
    exact snoc_all h.cA (by simp only; omega)

theorem hi_cov {x : Int × Int} (hz : 1 ≤ size) (h0 : x.1 = 0) (h : Hi size every quick S T A (x :: B) Gs Gt ks kt Ds Dt Ls Lt) :
    Hi size every quick { S with covered := max S.covered x.2 } T A B Gs Gt ks kt Ds (Dt ++ [x]) Ls Lt := by
  have ap : Dt ++ [x] ++ B = Dt ++ x :: B := by simp
  have ec : cnt (Dt ++ [x]) = cnt Dt := by rw [cnt_snoc, h0]; omega
  refine ⟨?_, by rw [ap]; exact h.sT, h.ls, by rw [ap]; exact h.lt, h.nA, by rw [ap]; exact h.nB, by rw [ec]; exact h.cA, by rw [ap]; exact h.cB⟩
  have e := cov_of (size := size) (g := Gs) (ck := ks) (M := Ds ++ A) (N := Dt) hz h0
  rw [← h.sS] at e
  exact e

/-- what arrives from the listener: the rest is sent, or it is not -/
theorem hi_arrB {x : Int × Int} (hz : 1 ≤ size) (C : Core size hold every quick S T A (x :: B) Gs Gt b) (h : Hi size every quick S T A (x :: B) Gs Gt ks kt Ds Dt Ls Lt) :
    (Hi size every quick (arrB size hold S A x).1 T (arrB size hold S A x).2 B Gs Gt ks kt Ds (Dt ++ [x]) Ls Lt ∧ (arrB size hold S A x).1.waiting = S.waiting ∧
      ¬ (0 < S.waiting ∧ S.corked = false ∧ permitsAt hold (max S.covered x.2) S.out S.mark = true)) ∨
    (Hi size every quick (arrB size hold S A x).1 T (arrB size hold S A x).2 B Gs Gt ks kt Ds (Dt ++ [x]) (gF size every quick Gs Gt (Ls, Lt)).1 (gF size every quick Gs Gt (Ls, Lt)).2 ∧ (arrB size hold S A x).1.waiting = 0 ∧ 0 < S.waiting) := by
  have h0 := C.bcnt x List.mem_cons_self
  have h1 := hi_cov hz h0 h
  have hd : cnt (Dt ++ [x]) = Gt := by
    have e : S.heard = cnt Dt := by rw [h.sS]; rfl
    rw [cnt_snoc, h0, ← e, C.sheard]
    omega
  unfold arrB
  simp only
  split
  · rename_i hc
    exact Or.inr ⟨hi_flush h1 hd hc.1 C.w1, by simp [Side.sent], hc.1⟩
  · rename_i hc
    exact Or.inl ⟨h1, rfl, hc⟩

theorem nn_rep {P : Int × Int → Prop} {n : Nat} {x : Int × Int} (h : P x) : ∀ y ∈ List.replicate n x, P y := fun y hy => by rw [(List.mem_replicate.mp hy).2]; exact h
theorem app_all {P : Int × Int → Prop} {L X : Way} (h : ∀ y ∈ L, P y) (hx : ∀ y ∈ X, P y) : ∀ y ∈ L ++ X, P y := fun y hy => (List.mem_append.mp hy).elim (h y) (hx y)

/-- a write: the rest is sent at once, or it is not -/
theorem hi_wrC {len : Int} {mode : Mode} (hz : 1 ≤ size) (hl : 1 ≤ len) (C : Core size hold every quick S T A B Gs Gt b) (h : Hi size every quick S T A B Gs Gt ks kt Ds Dt Ls Lt) :
    Hi size every quick (wrC size hold S A len mode).1 T (wrC size hold S A len mode).2 B (Gs + len) Gt (decide (mode = .more)) kt Ds Dt (gW size every quick (Gs + len) Gt (Ls, Lt)).1 (gW size every quick (Gs + len) Gt (Ls, Lt)).2 ∨
    (Hi size every quick (wrC size hold S A len mode).1 T (wrC size hold S A len mode).2 B (Gs + len) Gt (decide (mode = .more)) kt Ds Dt
      (gF size every quick (Gs + len) Gt (gW size every quick (Gs + len) Gt (Ls, Lt))).1 (gF size every quick (Gs + len) Gt (gW size every quick (Gs + len) Gt (Ls, Lt))).2 ∧ (wrC size hold S A len mode).1.waiting = 0) := by
  obtain ⟨nDs, nDt⟩ := h.nD
  have w := h.wait
  have hd : cnt Dt = Gt := by
    have e : S.heard = cnt Dt := by rw [h.sS]; rfl
    rw [← e, C.sheard]
  have w0 := C.w0
  -- the side with the bytes
  have e1 : ({ S with waiting := S.waiting + len, corked := false } : Side) = sideOf size (Gs + len) false (Ds ++ A) Dt := by
    rw [h.sS]
    unfold sideOf
    simp
    omega
  have H1 : Hi size every quick { S with waiting := S.waiting + len, corked := false } T A B (Gs + len) Gt false kt Ds Dt Ls Lt := ⟨e1, h.sT, h.ls, h.lt, h.nA, h.nB, h.cA, h.cB⟩
  have en : (S.waiting + len) / size = (Gs + len - cnt Ls) / size := by rw [w]; congr 1; omega
  have ef := fullN_of (size := size) (g := Gs + len) (D := Ds) (N := Dt) (A := A) nDt ((S.waiting + len) / size).toNat
  rw [← e1, hd, en] at ef
  have ap : Ds ++ (A ++ List.replicate ((Gs + len - cnt Ls) / size).toNat (size, Gt)) = Ds ++ A ++ List.replicate ((Gs + len - cnt Ls) / size).toNat (size, Gt) := by simp
  have cw : cnt (List.replicate ((Gs + len - cnt Ls) / size).toNat (size, Gt)) = (Gs + len - cnt Ls) / size * size := by
    have hn : 0 ≤ (Gs + len - cnt Ls) / size := Int.ediv_nonneg (by omega) (by omega)
    have : ∀ n : Nat, cnt (List.replicate n (size, Gt)) = n * size := by
      intro n
      induction n with
      | zero => rw [List.replicate_zero, cnt_nil]; omega
      | succ n ih =>
        rw [List.replicate_succ, cnt_cons, ih, show ((n + 1 : Nat) : Int) = n + 1 from rfl, Int.add_mul, Int.one_mul]
        simp only
        omega
    rw [this, Int.toNat_of_nonneg hn]
  have H2 : ∀ ck : Bool, Hi size every quick (sideOf size (Gs + len) ck (Ds ++ A ++ List.replicate ((Gs + len - cnt Ls) / size).toNat (size, Gt)) Dt) T (A ++ List.replicate ((Gs + len - cnt Ls) / size).toNat (size, Gt)) B (Gs + len) Gt ck kt Ds Dt
      (gW size every quick (Gs + len) Gt (Ls, Lt)).1 (gW size every quick (Gs + len) Gt (Ls, Lt)).2 := by
    intro ck
    refine ⟨by rw [ap], h.sT, ?_, ?_, ?_, h.nB, ?_, h.cB⟩
    · rw [ap, ← h.ls]
      rfl
    · rw [hearAll_append, ← h.lt, ← h.ls]
      rfl
    · rw [ap]
      exact app_all h.nA (nn_rep (by simp only; omega))
    · rw [ap]
      exact app_all h.cA (nn_rep (by simp only; omega))
  have rr : (sideOf size (Gs + len) false (Ds ++ A ++ List.replicate ((Gs + len - cnt Ls) / size).toNat (size, Gt)) Dt).waiting = (Gs + len - cnt Ls) % size := by
    show Gs + len - cnt (Ds ++ A ++ List.replicate ((Gs + len - cnt Ls) / size).toNat (size, Gt)) = _
    rw [cnt_append, cw, ← h.ls]
    have := Int.emod_add_ediv_mul (Gs + len - cnt Ls) size
    omega
  have m0 := Int.emod_nonneg (Gs + len - cnt Ls) (show size ≠ 0 by omega)
  have m1 := Int.emod_lt_of_pos (Gs + len - cnt Ls) (show 0 < size by omega)
  unfold wrC
  rw [en, ef]
  simp only
  by_cases c0 : (sideOf size (Gs + len) false (Ds ++ A ++ List.replicate ((Gs + len - cnt Ls) / size).toNat (size, Gt)) Dt).waiting = 0
  · rw [if_pos c0]
    left
    have := H2 (decide (mode = .more))
    have e : sideOf size (Gs + len) (decide (mode = .more)) (Ds ++ A ++ List.replicate ((Gs + len - cnt Ls) / size).toNat (size, Gt)) Dt = sideOf size (Gs + len) false (Ds ++ A ++ List.replicate ((Gs + len - cnt Ls) / size).toNat (size, Gt)) Dt := by
      have c0 : Gs + len - cnt (Ds ++ A ++ List.replicate ((Gs + len - cnt Ls) / size).toNat (size, Gt)) = 0 := c0
      unfold sideOf
      rw [c0]
      simp
    rwa [e] at this
  · rw [if_neg c0]
    by_cases hm : mode = .more
    · rw [if_pos hm]
      left
      have := H2 (decide (mode = .more))
      have e : sideOf size (Gs + len) (decide (mode = .more)) (Ds ++ A ++ List.replicate ((Gs + len - cnt Ls) / size).toNat (size, Gt)) Dt = { sideOf size (Gs + len) false (Ds ++ A ++ List.replicate ((Gs + len - cnt Ls) / size).toNat (size, Gt)) Dt with corked := true } := by
        have c0 : decide (Gs + len - cnt (Ds ++ A ++ List.replicate ((Gs + len - cnt Ls) / size).toNat (size, Gt)) ≠ 0) = true := decide_eq_true c0
        unfold sideOf
        rw [c0, decide_eq_true hm]
        rfl
      rwa [e] at this
    · rw [if_neg hm]
      have hmf : decide (mode = .more) = false := decide_eq_false hm
      rw [hmf]
      split
      · right
        exact ⟨hi_flush (H2 false) hd (by omega) (by omega), by simp [Side.sent]⟩
      · left
        exact H2 false

/-- the timer: the listener's acknowledgment -/
theorem hi_fireN (h : Hi size every quick S T [] [] Gs Gt ks kt Ds Dt Ls Lt) : Hi size every quick S (T.sent size 0) [] [(0, T.heard)] Gs Gt ks kt Ds Dt (gT (Ls, Lt)).1 (gT (Ls, Lt)).2 := by
  obtain ⟨nDs, nDt⟩ := h.nD
  have eh : T.heard = cnt Ds := by rw [h.sT]; rfl
  have hT := h.sT
  have hlt : Lt = Dt ++ [] := h.lt
  have hls := h.ls
  rw [List.append_nil] at hT hlt hls
  refine ⟨h.sS, ?_, h.ls, ?_, h.nA, ?_, h.cA, ?_⟩
  · have e := sideOf_sent (size := size) (g := Gt) (c := 0) (ck := kt) (M := Dt) (N := Ds) nDs (Or.inl rfl)
    rw [← hT, ← eh] at e
    exact e
  · show Lt ++ [(0, cnt Ls)] = Dt ++ [(0, T.heard)]
    rw [hlt, hls, eh]
  · exact snoc_all nDt (Int.le_refl _)
  · exact snoc_all (fun x hx => h.cB x (List.mem_append_left _ hx)) (by simp only; omega)

/-- the roles change -/
theorem hi_switch {every' quick' : Int} (h : Hi size every quick S T [] B Gs Gt ks kt Ds Dt Ls Lt) (hb : ∀ x ∈ B, x.1 = 0) : Hi size every' quick' T S B [] Gt Gs kt ks Dt Ds Lt Ls := by
  have hlt : Lt = Dt ++ B := h.lt
  refine ⟨h.sT, h.sS, hlt, ?_, h.nB, h.nA, h.cB, h.cA⟩
  rw [hearAll_zero hb]
  exact h.ls
theorem hi_seen (h : Hi size every quick S T A B Gs Gt ks kt Ds Dt Ls Lt) : Lt.filter (fun y => decide (y.2 ≤ cnt Ds)) = Dt ++ B := by
  rw [h.lt, hearAll_seen (Int.le_refl _) fun x hx => h.nA x (List.mem_append_right _ hx), List.filter_eq_self]
  intro y hy
  exact decide_eq_true (h.cB y hy)
end
end LW

/-! Latewords, the plain part 12: each scene that a search comes to has a history; the codes of scenes. -/
namespace LW

/-- is the mode of the last write of an endpoint `more` -/
def moreAt (ws : List Write) : Nat → Bool → Bool
  | 0, _ => false
  | k + 1, e => match ws[k]? with
    | some w => if w.ep = e then decide (w.mode = Mode.more) else moreAt ws k e
    | none => moreAt ws k e
def turnG (ws : List Write) (k : Nat) (e : Bool) (g : Way × Way) : Way × Way := if spk ws k = e then g else (g.2, g.1)
/-- what write k leaves, told from its endpoint -/
def baseG (cfg : Cfg) (ws : List Write) (k : Nat) (g : Way × Way) : Way × Way :=
  gW cfg.size (cfg.pol !(spk ws (k + 1))).every (cfg.pol !(spk ws (k + 1))).quick (G ws (k + 1) (spk ws (k + 1))) (G ws (k + 1) !(spk ws (k + 1))) (turnG ws k (spk ws (k + 1)) g)
def flushG (cfg : Cfg) (ws : List Write) (k : Nat) (g : Way × Way) : Way × Way :=
  gF cfg.size (cfg.pol !(spk ws k)).every (cfg.pol !(spk ws k)).quick (G ws k (spk ws k)) (G ws k !(spk ws k)) g
def ghosts (cfg : Cfg) (ws : List Write) : Nat → List (Way × Way)
  | 0 => [([], [])]
  | k + 1 => (ghosts cfg ws k).flatMap fun g => [baseG cfg ws k g, flushG cfg ws (k + 1) (baseG cfg ws k g), gT (baseG cfg ws k g), flushG cfg ws (k + 1) (gT (baseG cfg ws k g))]
theorem flat_len {α β : Type} {f : α → List β} {c : Nat} : ∀ {l : List α}, (∀ a ∈ l, (f a).length = c) → (l.flatMap f).length = l.length * c
  | [], _ => by simp
  | a :: l, h => by
    rw [List.flatMap_cons, List.length_append, flat_len fun b hb => h b (List.mem_cons_of_mem _ hb), h a List.mem_cons_self, List.length_cons, Nat.add_mul, Nat.one_mul, Nat.add_comm]
theorem ghosts_len {cfg : Cfg} {ws : List Write} : ∀ k, (ghosts cfg ws k).length = 4 ^ k
  | 0 => rfl
  | k + 1 => by
    show ((ghosts cfg ws k).flatMap _).length = _
    rw [flat_len (c := 4) fun _ _ => rfl, ghosts_len k, Nat.pow_succ]

/-- the history of a scene, told from s -/
def HiS (cfg : Cfg) (ws : List Write) (sc : Scene) (s : Bool) (Ds Dt : Way) (g : Way × Way) : Prop :=
  Hi cfg.size (cfg.pol !s).every (cfg.pol !s).quick (sc.side s) (sc.side !s) (sc.way s) (sc.way !s) (G ws sc.made s) (G ws sc.made !s) (moreAt ws sc.made s) (moreAt ws sc.made !s) Ds Dt g.1 g.2
/-- how the rest of the last write went -/
inductive Kd (cfg : Cfg) (ws : List Write) (sc : Scene) : Way × Way → Prop
  | zero : sc.made = 0 → Kd cfg ws sc ([], [])
  | none {k : Nat} {g0 : Way × Way} : sc.made = k + 1 → g0 ∈ ghosts cfg ws k → Kd cfg ws sc (baseG cfg ws k g0)
  | sent {k : Nat} {g0 : Way × Way} : sc.made = k + 1 → g0 ∈ ghosts cfg ws k → (sc.side (spk ws sc.made)).waiting = 0 → Kd cfg ws sc (flushG cfg ws (k + 1) (baseG cfg ws k g0))
  | fired {k : Nat} {g0 : Way × Way} : sc.made = k + 1 → g0 ∈ ghosts cfg ws k → 0 < (sc.side (spk ws sc.made)).waiting → (sc.side (spk ws sc.made)).corked = false → sc.way (spk ws sc.made) = [] →
      sc.way (!spk ws sc.made) = [(0, (sc.side (spk ws sc.made)).out)] → Kd cfg ws sc (gT (baseG cfg ws k g0))
  | both {k : Nat} {g0 : Way × Way} : sc.made = k + 1 → g0 ∈ ghosts cfg ws k → (sc.side (spk ws sc.made)).waiting = 0 → Kd cfg ws sc (flushG cfg ws (k + 1) (gT (baseG cfg ws k g0)))
section
variable {cfg : Cfg} {ws : List Write} {sc : Scene} {g : Way × Way}
theorem Kd.mem (h : Kd cfg ws sc g) : g ∈ ghosts cfg ws sc.made := by
  cases h with
  | zero h => rw [h]; exact List.mem_singleton.mpr rfl
  | none h m => rw [h]; exact List.mem_flatMap.mpr ⟨_, m, by simp⟩
  | sent h m => rw [h]; exact List.mem_flatMap.mpr ⟨_, m, by simp⟩
  | fired h m => rw [h]; exact List.mem_flatMap.mpr ⟨_, m, by simp⟩
  | both h m => rw [h]; exact List.mem_flatMap.mpr ⟨_, m, by simp⟩
/-- a step that changes neither the rest nor the history; from the speaker something came -/
theorem Kd.keep {sc' : Scene} (h : Kd cfg ws sc g) (hm : sc'.made = sc.made) (hw : (sc'.side (spk ws sc.made)).waiting = (sc.side (spk ws sc.made)).waiting) (hn : sc.way (spk ws sc.made) ≠ []) : Kd cfg ws sc' g := by
  cases h with
  | zero h => exact .zero (hm.trans h)
  | none h m => exact .none (hm.trans h) m
  | sent h m w => exact .sent (hm.trans h) m (by rw [hm, hw]; exact w)
  | fired h m w c a => exact absurd a hn
  | both h m w => exact .both (hm.trans h) m (by rw [hm, hw]; exact w)
structure Hst (cfg : Cfg) (ws : List Write) (sc : Scene) : Prop where
  j : J cfg ws sc
  ex : ∃ Ds Dt g, HiS cfg ws sc (spk ws sc.made) Ds Dt g ∧ Kd cfg ws sc g ∧ (Ds.length : Int) + Dt.length + mu cfg ws sc ≤ mu cfg ws scene0

theorem hst0 (ok : cfg.Ok) : Hst cfg ws scene0 := by
  have sd : ∀ e, scene0.side e = side0 := fun e => by cases e <;> rfl
  have wy : ∀ e, scene0.way e = [] := fun e => by cases e <;> rfl
  refine ⟨j0 ok, [], [], ([], []), ?_, .zero rfl, by simp⟩
  unfold HiS
  rw [sd, sd, wy, wy]
  exact ⟨rfl, rfl, rfl, rfl, fun _ h => (nomatch h), fun _ h => (nomatch h), fun _ h => (nomatch h), fun _ h => (nomatch h)⟩

theorem hst_arr_s (ok : cfg.Ok) (h : Hst cfg ws sc) (hn : sc.way (spk ws sc.made) ≠ []) : Hst cfg ws (sc.arrive cfg (spk ws sc.made)) := by
  obtain ⟨j, Ds, Dt, g, hi, kd, len⟩ := h
  obtain ⟨a, _⟩ := arrive_s j hn
  obtain ⟨x, r, e⟩ : ∃ x r, sc.way (spk ws sc.made) = x :: r := by
    cases q : sc.way (spk ws sc.made) with
    | nil => exact absurd q hn
    | cons x r => exact ⟨x, r, rfl⟩
  refine ⟨a.j, Ds ++ [x], Dt, g, ?_, kd.keep a.made ?_ hn, ?_⟩
  · unfold HiS at hi ⊢
    rw [a.made, arrive_s_eq j e]
    simp only [put_side, put_side', put_way, put_way']
    rw [e] at hi
    exact hi_arrA ok.size hi
  · rw [arrive_s_eq j e, put_side]
  · have := a.mu
    rw [List.length_append, List.length_singleton]
    omega
theorem hst_arr_t (ok : cfg.Ok) (h : Hst cfg ws sc) (hn : sc.way (!spk ws sc.made) ≠ []) : Hst cfg ws (sc.arrive cfg (!spk ws sc.made)) := by
  obtain ⟨j, Ds, Dt, g, hi, kd, len⟩ := h
  have a := arrive_t j hn
  obtain ⟨x, r, e⟩ : ∃ x r, sc.way (!spk ws sc.made) = x :: r := by
    cases q : sc.way (!spk ws sc.made) with
    | nil => exact absurd q hn
    | cons x r => exact ⟨x, r, rfl⟩
  obtain ⟨b, C, _⟩ := j.core
  have mp := j.mpos hn
  have em := a.made
  have mu := a.mu
  have aj := a.j
  have wS : (sc.arrive cfg (!spk ws sc.made)).side (spk ws sc.made) = (arrB cfg.size (cfg.pol (spk ws sc.made)).hold (sc.side (spk ws sc.made)) (sc.way (spk ws sc.made)) x).1 := by rw [arrive_t_eq j e, put_side]
  have hi0 := hi
  unfold HiS at hi0
  unfold CoreS at C
  rw [e] at hi0 C
  have lenx : ((Dt ++ [x]).length : Int) = Dt.length + 1 := by rw [List.length_append]; rfl
  have hz := ok.size
  -- the history of the next scene, from that of its sides and ways
  have mk : ∀ g', Hi cfg.size (cfg.pol !(spk ws sc.made)).every (cfg.pol !(spk ws sc.made)).quick (arrB cfg.size (cfg.pol (spk ws sc.made)).hold (sc.side (spk ws sc.made)) (sc.way (spk ws sc.made)) x).1 (sc.side !(spk ws sc.made))
      (arrB cfg.size (cfg.pol (spk ws sc.made)).hold (sc.side (spk ws sc.made)) (sc.way (spk ws sc.made)) x).2 r (G ws sc.made (spk ws sc.made)) (G ws sc.made !(spk ws sc.made)) (moreAt ws sc.made (spk ws sc.made)) (moreAt ws sc.made !(spk ws sc.made)) Ds (Dt ++ [x]) g'.1 g'.2 →
      HiS cfg ws (sc.arrive cfg (!spk ws sc.made)) (spk ws (sc.arrive cfg (!spk ws sc.made)).made) Ds (Dt ++ [x]) g' := by
    intro g' h
    unfold HiS
    rw [em, arrive_t_eq j e]
    simp only [put_side, put_side', put_way, put_way']
    exact h
  rcases hi_arrB hz C hi0 with ⟨h1, h2, h3⟩ | ⟨h1, h2, h3⟩
  · refine ⟨aj, Ds, Dt ++ [x], g, mk g h1, ?_, by omega⟩
    cases kd with
    | zero z => omega
    | none k m => exact .none (em.trans k) m
    | sent k m w => exact .sent (em.trans k) m (by rw [em, wS, h2]; exact w)
    | fired k m w c a' b' =>
      exfalso
      refine h3 ⟨w, c, ?_⟩
      rw [e] at b'
      have ex : x = (0, (sc.side (spk ws sc.made)).out) := (List.cons.inj b').1
      have mk := C.mark
      have cv := C.cov
      have am := C.asum
      rw [a', cnt_nil] at am
      rw [ex]
      unfold permitsAt
      cases (cfg.pol (spk ws sc.made)).hold
      · rfl
      · simp
        omega
      · simp
        omega
    | both k m w => exact .both (em.trans k) m (by rw [em, wS, h2]; exact w)
  · refine ⟨aj, Ds, Dt ++ [x], _, mk (gF cfg.size (cfg.pol !(spk ws sc.made)).every (cfg.pol !(spk ws sc.made)).quick (G ws sc.made (spk ws sc.made)) (G ws sc.made !(spk ws sc.made)) g) h1, ?_, by omega⟩
    cases kd with
    | zero z => omega
    | none k m =>
      have q := Kd.sent (em.trans k) m (by rw [em, wS, h2])
      rw [← k] at q
      exact q
    | sent k m w => omega
    | fired k m w c a' b' =>
      have q := Kd.both (em.trans k) m (by rw [em, wS, h2])
      rw [← k] at q
      exact q
    | both k m w => omega

theorem moreAt_succ {w : Write} {m : Nat} {e : Bool} (h : ws[m]? = some w) : moreAt ws (m + 1) e = if w.ep = e then decide (w.mode = Mode.more) else moreAt ws m e := by
  show (match ws[m]? with | some w => if w.ep = e then decide (w.mode = Mode.more) else moreAt ws m e | none => moreAt ws m e) = _
  rw [h]

theorem hst_write (ok : cfg.Ok) (wok : WsOk ws) (h : Hst cfg ws sc) {w : Write} (hw : ws[sc.made]? = some w) (hh : heardAll ws sc w.ep = true) : Hst cfg ws (sc.write cfg w) := by
  have a := write_ok ok wok h.j hw hh
  obtain ⟨j, Ds, Dt, g, hi, kd, len⟩ := h
  obtain ⟨hm, hwe⟩ := List.getElem?_eq_some_iff.mp hw
  have hl : 1 ≤ w.len := wok.len w (by rw [← hwe]; exact List.getElem_mem hm)
  have sp : spk ws (sc.made + 1) = w.ep := spk_succ hw
  have mu := a.mu
  have aj := a.j
  have em : (sc.write cfg w).made = sc.made + 1 := rfl
  have G1 : G ws (sc.made + 1) w.ep = G ws sc.made w.ep + w.len := by rw [G_succ hw, if_pos rfl]
  have G2 : G ws (sc.made + 1) (!w.ep) = G ws sc.made (!w.ep) := by
    rw [G_succ hw, if_neg (by cases w.ep <;> simp)]
    omega
  have M1 : moreAt ws (sc.made + 1) w.ep = decide (w.mode = Mode.more) := by rw [moreAt_succ hw, if_pos rfl]
  have M2 : moreAt ws (sc.made + 1) (!w.ep) = moreAt ws sc.made (!w.ep) := by rw [moreAt_succ hw, if_neg (by cases w.ep <;> simp)]
  have e1 : (sc.write cfg w).side w.ep = (wrC cfg.size (cfg.pol w.ep).hold (sc.side w.ep) (sc.way w.ep) w.len w.mode).1 := by
    unfold Scene.write
    cases w.ep <;> rfl
  have e2 : (sc.write cfg w).side (!w.ep) = sc.side !w.ep := by
    unfold Scene.write
    cases w.ep <;> rfl
  have e3 : (sc.write cfg w).way w.ep = (wrC cfg.size (cfg.pol w.ep).hold (sc.side w.ep) (sc.way w.ep) w.len w.mode).2 := by
    unfold Scene.write
    cases w.ep <;> rfl
  have e4 : (sc.write cfg w).way (!w.ep) = sc.way !w.ep := by
    unfold Scene.write
    cases w.ep <;> rfl
  -- told from the write's endpoint
  have key : ∀ (b : Int) (D1 D2 : Way), CoreS cfg ws sc w.ep b → HiS cfg ws sc w.ep D1 D2 (turnG ws sc.made w.ep g) → (D1.length : Int) + D2.length = Ds.length + Dt.length → Hst cfg ws (sc.write cfg w) := by
    intro b D1 D2 C hi' hlen
    unfold HiS at hi'
    unfold CoreS at C
    have fit : ∀ g', Hi cfg.size (cfg.pol !w.ep).every (cfg.pol !w.ep).quick (wrC cfg.size (cfg.pol w.ep).hold (sc.side w.ep) (sc.way w.ep) w.len w.mode).1 (sc.side !w.ep) (wrC cfg.size (cfg.pol w.ep).hold (sc.side w.ep) (sc.way w.ep) w.len w.mode).2 (sc.way !w.ep)
        (G ws sc.made w.ep + w.len) (G ws sc.made !w.ep) (decide (w.mode = Mode.more)) (moreAt ws sc.made !w.ep) D1 D2 g'.1 g'.2 → HiS cfg ws (sc.write cfg w) (spk ws (sc.write cfg w).made) D1 D2 g' := by
      intro g' h
      unfold HiS
      rw [em, sp, e1, e2, e3, e4, G1, G2, M1, M2]
      exact h
    have gm := kd.mem
    rcases hi_wrC (mode := w.mode) ok.size hl C hi' with h1 | ⟨h1, h2⟩
    · refine ⟨aj, D1, D2, baseG cfg ws sc.made g, fit _ ?_, .none em gm, by omega⟩
      unfold baseG
      rw [sp, G1, G2]
      exact h1
    · refine ⟨aj, D1, D2, flushG cfg ws (sc.made + 1) (baseG cfg ws sc.made g), fit _ ?_, .sent em gm (by rw [em, sp, e1]; exact h2), by omega⟩
      unfold flushG baseG
      rw [sp, G1, G2]
      exact h1
  obtain ⟨b, C, hb⟩ := j.core
  by_cases q : w.ep = spk ws sc.made
  · refine key b Ds Dt (by rw [q]; exact C) ?_ rfl
    unfold turnG
    rw [if_pos q.symm, q]
    exact hi
  · have mp : 0 < sc.made := by
      rcases Nat.eq_zero_or_pos sc.made with z | z
      · exfalso
        rw [z] at hw q
        rw [spk_zero hw] at q
        exact q rfl
      · exact z
    have hb' := hb mp
    have qf := spk_flip q
    have hT : (sc.side !(spk ws sc.made)).heard = G ws sc.made (spk ws sc.made) := by
      unfold heardAll at hh
      rw [qf] at hh
      simpa using hh
    obtain ⟨a1, a2, _⟩ := switch_ok (every' := (cfg.pol (spk ws sc.made)).every) (quick' := (cfg.pol (spk ws sc.made)).quick) (hold' := (cfg.pol !(spk ws sc.made)).hold) (ok.every _) C hb' hT
    have bc := C.bcnt
    refine key (G ws sc.made !(spk ws sc.made)) Dt Ds ?_ ?_ (by omega)
    · rw [qf]
      unfold CoreS
      rw [Bool.not_not, a1]
      exact a2
    · unfold turnG
      rw [if_neg fun z => q z.symm, qf]
      unfold HiS at hi ⊢
      rw [a1] at hi
      rw [Bool.not_not, a1]
      exact hi_switch hi bc
theorem dead_waits (h : J cfg ws sc) (d : Dead ws sc) : 0 < sc.made → 0 < (sc.side (spk ws sc.made)).waiting := by
  intro mp
  obtain ⟨b, C, hb⟩ := h.core
  have fin := d.fin
  have wr := d.wr
  have wn : ∀ e, sc.way e = [] := by
    intro e
    cases e
    · exact d.w0
    · exact d.w1
  have am := C.asum
  rw [wn, cnt_nil] at am
  have sm := C.sum
  have w0 := C.w0
  refine Int.lt_of_not_ge fun hle => ?_
  have hS := h.speaks
  have hT : heardAll ws sc (!spk ws sc.made) = true := by
    unfold heardAll
    rw [Bool.not_not]
    exact decide_eq_true (by omega)
  have all : ∀ e, heardAll ws sc e = true := by
    intro e
    by_cases q : e = spk ws sc.made
    · rw [q]; exact hS
    · rw [spk_flip q]; exact hT
  unfold canWrite at wr
  cases e : ws[sc.made]? with
  | some w =>
    rw [e] at wr
    simp only at wr
    rw [all] at wr
    cases wr
  | none =>
    have hl : sc.made = ws.length := by
      have := List.getElem?_eq_none_iff.mp e
      have := h.le
      omega
    unfold finished at fin
    rw [all, all] at fin
    simp [hl] at fin
theorem hst_fire (ok : cfg.Ok) (wok : WsOk ws) (h : Hst cfg ws sc) (d : Dead ws sc) (mp : 0 < sc.made) : Hst cfg ws (sc.fire cfg (spk ws sc.made)) := by
  have a := fire_ok ok wok h.j d
  have hw := dead_waits h.j d mp
  obtain ⟨j, Ds, Dt, g, hi, kd, len⟩ := h
  obtain ⟨b, C, hb⟩ := j.core
  have wn : ∀ e, sc.way e = [] := by
    intro e
    cases e
    · exact d.w0
    · exact d.w1
  have mu := a.mu
  have aj := a.j
  have em := a.made
  have am := C.asum
  rw [wn, cnt_nil] at am
  have hd : cnt Dt = G ws sc.made (!spk ws sc.made) := by
    have e : (sc.side (spk ws sc.made)).heard = cnt Dt := by
      have := hi.sS
      rw [this]
      rfl
    rw [← e, C.sheard]
  obtain ⟨s, hs⟩ : ∃ s, s = spk ws sc.made := ⟨_, rfl⟩
  cases hk : (sc.side (spk ws sc.made)).corked with
  | true =>
    have e0 : sc.fire cfg (spk ws sc.made) = { sc.put (spk ws sc.made) ((sc.side (spk ws sc.made)).sent cfg.size (sc.side (spk ws sc.made)).waiting) (sc.side !(spk ws sc.made)) (sc.way (spk ws sc.made) ++ [((sc.side (spk ws sc.made)).waiting, (sc.side (spk ws sc.made)).heard)]) (sc.way !(spk ws sc.made)) with stalls := sc.stalls + 1 } := by
      unfold Scene.fire
      rw [if_pos hk]
    have e1 : (sc.fire cfg (spk ws sc.made)).side (spk ws sc.made) = (sc.side (spk ws sc.made)).sent cfg.size (sc.side (spk ws sc.made)).waiting := by rw [e0]; cases spk ws sc.made <;> rfl
    have e2 : (sc.fire cfg (spk ws sc.made)).side (!(spk ws sc.made)) = sc.side !(spk ws sc.made) := by rw [e0]; cases spk ws sc.made <;> rfl
    have e3 : (sc.fire cfg (spk ws sc.made)).way (spk ws sc.made) = sc.way (spk ws sc.made) ++ [((sc.side (spk ws sc.made)).waiting, (sc.side (spk ws sc.made)).heard)] := by rw [e0]; cases spk ws sc.made <;> rfl
    have e4 : (sc.fire cfg (spk ws sc.made)).way (!(spk ws sc.made)) = sc.way !(spk ws sc.made) := by rw [e0]; cases spk ws sc.made <;> rfl
    refine ⟨aj, Ds, Dt, gF cfg.size (cfg.pol !(spk ws sc.made)).every (cfg.pol !(spk ws sc.made)).quick (G ws sc.made (spk ws sc.made)) (G ws sc.made !(spk ws sc.made)) g, ?_, ?_, by omega⟩
    · unfold HiS
      rw [em, e1, e2, e3, e4]
      exact hi_flush hi hd hw C.w1
    · have w' : ((sc.fire cfg (spk ws sc.made)).side (spk ws (sc.fire cfg (spk ws sc.made)).made)).waiting = 0 := by
        rw [em, e1]
        simp [Side.sent]
      cases kd with
      | zero z => omega
      | none k m =>
        have q := Kd.sent (em.trans k) m w'
        rw [← k] at q
        exact q
      | sent k m w => omega
      | fired k m w c a' b' =>
        rw [hk] at c
        cases c
      | both k m w => omega
  | false =>
    have e0 : sc.fire cfg (spk ws sc.made) = { sc.put (spk ws sc.made) (sc.side (spk ws sc.made)) ((sc.side !(spk ws sc.made)).sent cfg.size 0) (sc.way (spk ws sc.made)) (sc.way (!(spk ws sc.made)) ++ [(0, (sc.side !(spk ws sc.made)).heard)]) with stalls := sc.stalls + 1 } := by
      unfold Scene.fire
      rw [if_neg (by rw [hk]; decide)]
    have e1 : (sc.fire cfg (spk ws sc.made)).side (spk ws sc.made) = sc.side (spk ws sc.made) := by rw [e0]; cases spk ws sc.made <;> rfl
    have e2 : (sc.fire cfg (spk ws sc.made)).side (!(spk ws sc.made)) = (sc.side !(spk ws sc.made)).sent cfg.size 0 := by rw [e0]; cases spk ws sc.made <;> rfl
    have e3 : (sc.fire cfg (spk ws sc.made)).way (spk ws sc.made) = [] := by rw [← wn (spk ws sc.made), e0]; cases spk ws sc.made <;> rfl
    have e4 : (sc.fire cfg (spk ws sc.made)).way (!(spk ws sc.made)) = [(0, (sc.side !(spk ws sc.made)).heard)] := by
      have : sc.way (!(spk ws sc.made)) ++ [(0, (sc.side !(spk ws sc.made)).heard)] = [(0, (sc.side !(spk ws sc.made)).heard)] := by rw [wn]; rfl
      rw [← this, e0]
      cases spk ws sc.made <;> rfl
    refine ⟨aj, Ds, Dt, gT g, ?_, ?_, by omega⟩
    · unfold HiS at hi ⊢
      rw [em, e1, e2, e3, e4]
      rw [wn, wn] at hi
      exact hi_fireN hi
    · cases kd with
      | zero z => omega
      | none k m =>
        exact .fired (em.trans k) m (by rw [em, e1]; exact hw) (by rw [em, e1]; exact hk) (by rw [em]; exact e3) (by rw [em, e1, e4]; simp; omega)
      | sent k m w => omega
      | fired k m w c a' b' =>
        rw [wn] at b'
        cases b'
      | both k m w => omega
theorem dead_made (h : J cfg ws sc) (d : Dead ws sc) : 0 < sc.made := by
  have fin := d.fin
  have wr := d.wr
  rcases Nat.eq_zero_or_pos sc.made with q | q
  · exfalso
    obtain ⟨_, _, z0, z1⟩ := h.zero q
    have all : ∀ e, heardAll ws sc e = true := by
      intro e
      unfold heardAll
      rw [q, G_zero]
      cases e
      · exact decide_eq_true z0
      · exact decide_eq_true z1
    unfold canWrite at wr
    cases e : ws[sc.made]? with
    | some w =>
      rw [e] at wr
      simp only at wr
      rw [all] at wr
      cases wr
    | none =>
      have hl : sc.made = ws.length := by
        have := List.getElem?_eq_none_iff.mp e
        have := h.le
        omega
      unfold finished at fin
      rw [all, all] at fin
      simp [hl] at fin
  · exact q
theorem hst_after (ok : cfg.Ok) (wok : WsOk ws) (h : Hst cfg ws sc) {ev : Ev} (hev : ev ∈ possible ws sc) : Hst cfg ws (after cfg ws sc ev) := by
  obtain ⟨_, hev⟩ := mem_possible hev
  cases ev with
  | write =>
    obtain ⟨w, hw, hh⟩ := hev
    have ea : after cfg ws sc .write = sc.write cfg w := by
      unfold after
      rw [hw]
    rw [ea]
    exact hst_write ok wok h hw hh
  | arr e =>
    show Hst cfg ws (sc.arrive cfg e)
    by_cases q : e = spk ws sc.made
    · subst q
      exact hst_arr_s ok h hev
    · have := spk_flip q
      subst this
      exact hst_arr_t ok h hev
  | timer => exact hst_fire ok wok h hev (dead_made h.j hev)

/-! ### codes -/
def codeScene (cfg : Cfg) (ws : List Write) (k : Nat) (g : Way × Way) (ns nt : Nat) : Scene :=
  (⟨k, 0, side0, side0, [], []⟩ : Scene).put (spk ws k)
    (sideOf cfg.size (G ws k (spk ws k)) (moreAt ws k (spk ws k)) g.1 ((g.2.filter fun y => decide (y.2 ≤ cnt (g.1.take ns))).take nt))
    (sideOf cfg.size (G ws k !(spk ws k)) (moreAt ws k !(spk ws k)) (g.2.filter fun y => decide (y.2 ≤ cnt (g.1.take ns))) (g.1.take ns))
    (g.1.drop ns) ((g.2.filter fun y => decide (y.2 ≤ cnt (g.1.take ns))).drop nt)
def codes (cfg : Cfg) (ws : List Write) (n : Nat) : List Scene :=
  (List.range 6).flatMap fun k => (ghosts cfg ws k).flatMap fun g => (List.range n).flatMap fun ns => (List.range n).map fun nt => codeScene cfg ws k g ns nt
theorem codes_len {n : Nat} : (codes cfg ws n).length = 1365 * (n * n) := by
  have h : ∀ k, ((ghosts cfg ws k).flatMap fun g => (List.range n).flatMap fun ns => (List.range n).map fun nt => codeScene cfg ws k g ns nt).length = 4 ^ k * (n * n) := by
    intro k
    rw [flat_len (c := n * n) fun g _ => by rw [flat_len (c := n) fun ns _ => by simp]; simp, ghosts_len]
  unfold codes
  have e : List.range 6 = [0, 1, 2, 3, 4, 5] := rfl
  rw [e]
  simp only [List.flatMap_cons, List.flatMap_nil, List.length_append, List.length_nil, h]
  generalize n * n = m
  omega
theorem hst_code {n : Nat} (ok : cfg.Ok) (wok : WsOk ws) (n5 : ws.length ≤ 5) (hn : mu cfg ws scene0 < n) (h : Hst cfg ws sc) : ({ sc with stalls := 0 } : Scene) ∈ codes cfg ws n := by
  obtain ⟨j, Ds, Dt, g, hi, kd, len⟩ := h
  have gm := kd.mem
  have nn := mu_nn ok wok j
  have le := j.le
  have e1 : g.1 = Ds ++ sc.way (spk ws sc.made) := hi.ls
  have e2 := hi_seen hi
  have t1 : g.1.take Ds.length = Ds := by rw [e1]; simp
  have d1 : g.1.drop Ds.length = sc.way (spk ws sc.made) := by rw [e1]; simp
  have key : ({ sc with stalls := 0 } : Scene) = codeScene cfg ws sc.made g Ds.length Dt.length := by
    unfold codeScene
    rw [t1, d1, e2, List.take_left, List.drop_left, e1]
    have s1 := hi.sS
    have s2 := hi.sT
    rw [← s1, ← s2]
    have : ({ sc with stalls := 0 } : Scene) = ({ sc with stalls := 0 } : Scene).put (spk ws sc.made) (sc.side (spk ws sc.made)) (sc.side !(spk ws sc.made)) (sc.way (spk ws sc.made)) (sc.way !(spk ws sc.made)) := by
      cases spk ws sc.made <;> rfl
    rw [this]
    cases spk ws sc.made <;> rfl
  rw [key]
  unfold codes
  refine List.mem_flatMap.mpr ⟨sc.made, List.mem_range.mpr (by omega), List.mem_flatMap.mpr ⟨g, gm, List.mem_flatMap.mpr ⟨Ds.length, List.mem_range.mpr (by omega), List.mem_map.mpr ⟨Dt.length, List.mem_range.mpr (by omega), rfl⟩⟩⟩⟩
end
/-- no more keys than codes -/
theorem nodup_le {α : Type} : ∀ {ks l : List α}, ks.Nodup → (∀ k ∈ ks, k ∈ l) → ks.length ≤ l.length
  | [], _, _, _ => Nat.zero_le _
  | k :: ks, l, h, hl => by
    obtain ⟨l1, l2, e⟩ := List.append_of_mem (hl k List.mem_cons_self)
    obtain ⟨hk, hn⟩ := List.nodup_cons.mp h
    have := nodup_le (ks := ks) (l := l1 ++ l2) hn fun x hx => by
      have h1 := hl x (List.mem_cons_of_mem _ hx)
      have ne : x ≠ k := fun z => hk (z ▸ hx)
      rw [e] at h1
      simp only [List.mem_append, List.mem_cons] at h1 ⊢
      rcases h1 with h1 | h1 | h1
      · exact Or.inl h1
      · exact absurd h1 ne
      · exact Or.inr h1
    rw [e]
    simp only [List.length_append, List.length_cons] at this ⊢
    omega
end LW

/-! The text by its places, the names of each def, and what the walk asks of the top. Printed by gen_t.py. -/
namespace Lw
open PySem L2
/-- the i-th statement of the text -/
def top (i : Nat) : Stmt := PySem.Challenge.pw_latewords_k28_whole_orders_are_enough.main.body.getD i (.Pass ⟨0, 0, 0, 0⟩)
abbrev st_in_integer : Stmt := top 12
abbrev st_in_range : Stmt := top 13
abbrev st_Policy_init : Stmt := inClass (top 14) 1
abbrev st_Setting_init : Stmt := inClass (top 15) 0
abbrev st_is_write : Stmt := top 20
abbrev st_check : Stmt := top 21
abbrev st_split_turns : Stmt := top 22
abbrev st_normal_order : Stmt := top 23
abbrev st_rules_of : Stmt := top 25
abbrev st_with_full : Stmt := top 26
abbrev st_with_partial : Stmt := top 27
abbrev st_after_write : Stmt := top 28
abbrev st_after_clearing : Stmt := top 29
abbrev st_after_turn : Stmt := top 30
abbrev st_first_parts : Stmt := top 32
abbrev st_first_quick : Stmt := top 33
abbrev st_with_quick : Stmt := top 34
abbrev st_clearings_of : Stmt := top 35
abbrev st_turn_ends : Stmt := top 36
abbrev st_best_orders : Stmt := top 37
abbrev st_least : Stmt := top 38
abbrev st_most : Stmt := top 39
abbrev st_Side_init : Stmt := inClass (top 45) 0
abbrev st_Side_packed : Stmt := inClass (top 45) 1
abbrev st_Side_permits : Stmt := inClass (top 45) 2
abbrev st_Draft_init : Stmt := inClass (top 46) 0
abbrev st_Draft_packed : Stmt := inClass (top 46) 1
abbrev st_Draft_send : Stmt := inClass (top 46) 2
abbrev st_Draft_write : Stmt := inClass (top 46) 3
abbrev st_Draft_arrive : Stmt := inClass (top 46) 4
abbrev st_Draft_fire : Stmt := inClass (top 46) 5
abbrev st_Rules_init : Stmt := inClass (top 47) 0
abbrev st_Rules_first : Stmt := inClass (top 47) 1
abbrev st_Rules_heard_all : Stmt := inClass (top 47) 2
abbrev st_Rules_finished : Stmt := inClass (top 47) 3
abbrev st_Rules_possible : Stmt := inClass (top 47) 4
abbrev st_Rules_after : Stmt := inClass (top 47) 5
abbrev st_Road_init : Stmt := inClass (top 48) 0
abbrev st_Road_possible : Stmt := inClass (top 48) 2
abbrev st_Road_do : Stmt := inClass (top 48) 3
abbrev st_Road_stall_count : Stmt := inClass (top 48) 6
abbrev st_Road_is_over : Stmt := inClass (top 48) 7
abbrev st_Road_way_from : Stmt := inClass (top 48) 16
abbrev st_Road_clearing : Stmt := inClass (top 48) 17
abbrev st_Road_settle : Stmt := inClass (top 48) 18
abbrev st_Road_end_turn : Stmt := inClass (top 48) 19
abbrev st_Road_play : Stmt := inClass (top 48) 21
abbrev st_Searched_init : Stmt := inClass (top 51) 0
abbrev st_Searched_key_of : Stmt := inClass (top 51) 1
abbrev st_Searched_from_here : Stmt := inClass (top 51) 2
abbrev st_Searched_sequence : Stmt := inClass (top 51) 3
abbrev st_search : Stmt := top 52
abbrev st_law_bag : Stmt := top 54
abbrev st_law_take : Stmt := top 55
abbrev st_law_policy : Stmt := top 56
abbrev st_law_setting : Stmt := top 57
abbrev st_law_words : Stmt := top 58
abbrev st_law_lists : Stmt := top 59
abbrev st_law_right : Stmt := top 60
abbrev st_law : Stmt := top 61
abbrev N_in_integer : List Str := ["value"]
theorem sc_in_integer : FnScope N_in_integer ["value"] (defScope st_in_integer) := ⟨rfl, rfl, rfl, by decide +kernel, rfl, by decide +kernel, by decide +kernel⟩
abbrev N_in_range : List Str := ["value", "least", "most"]
theorem sc_in_range : FnScope N_in_range ["value", "least", "most"] (defScope st_in_range) := ⟨rfl, rfl, rfl, by decide +kernel, rfl, by decide +kernel, by decide +kernel⟩
abbrev N_Policy_init : List Str := ["self", "hold", "every", "quick"]
theorem sc_Policy_init : FnScope N_Policy_init ["self", "hold", "every", "quick"] (defScope st_Policy_init) := ⟨rfl, rfl, rfl, by decide +kernel, rfl, by decide +kernel, by decide +kernel⟩
abbrev N_Setting_init : List Str := ["self", "size", "policies", "both", "policy"]
theorem sc_Setting_init : FnScope N_Setting_init ["self", "size", "policies"] (defScope st_Setting_init) := ⟨rfl, rfl, rfl, by decide +kernel, rfl, by decide +kernel, by decide +kernel⟩
abbrev N_is_write : List Str := ["value", "endpoint", "length", "mode"]
theorem sc_is_write : FnScope N_is_write ["value"] (defScope st_is_write) := ⟨rfl, rfl, rfl, by decide +kernel, rfl, by decide +kernel, by decide +kernel⟩
abbrev N_check : List Str := ["conversation", "index", "write"]
theorem sc_check : FnScope N_check ["conversation"] (defScope st_check) := ⟨rfl, rfl, rfl, by decide +kernel, rfl, by decide +kernel, by decide +kernel⟩
abbrev N_split_turns : List Str := ["writes", "found", "index", "write"]
theorem sc_split_turns : FnScope N_split_turns ["writes"] (defScope st_split_turns) := ⟨rfl, rfl, rfl, by decide +kernel, rfl, by decide +kernel, by decide +kernel⟩
abbrev N_normal_order : List Str := ["conversation", "order", "starts", "index", "most", "many", "endpoint", "start", "stop"]
theorem sc_normal_order : FnScope N_normal_order ["conversation", "order"] (defScope st_normal_order) := ⟨rfl, rfl, rfl, by decide +kernel, rfl, by decide +kernel, by decide +kernel⟩
abbrev N_rules_of : List Str := ["setting", "speaker"]
theorem sc_rules_of : FnScope N_rules_of ["setting", "speaker"] (defScope st_rules_of) := ⟨rfl, rfl, rfl, by decide +kernel, rfl, by decide +kernel, by decide +kernel⟩
abbrev N_with_full : List Str := ["rules", "parts", "many", "size", "hold", "every", "rest", "kept", "blocked", "stuck", "pending", "quick", "soon", "late", "told"]
theorem sc_with_full : FnScope N_with_full ["rules", "parts", "many"] (defScope st_with_full) := ⟨rfl, rfl, rfl, by decide +kernel, rfl, by decide +kernel, by decide +kernel⟩
abbrev N_with_partial : List Str := ["rules", "parts", "blocked"]
theorem sc_with_partial : FnScope N_with_partial ["rules", "parts"] (defScope st_with_partial) := ⟨rfl, rfl, rfl, by decide +kernel, rfl, by decide +kernel, by decide +kernel⟩
abbrev N_after_write : List Str := ["rules", "parts", "length", "mode", "many", "rest", "told", "more"]
theorem sc_after_write : FnScope N_after_write ["rules", "parts", "length", "mode"] (defScope st_after_write) := ⟨rfl, rfl, rfl, by decide +kernel, rfl, by decide +kernel, by decide +kernel⟩
abbrev N_after_clearing : List Str := ["rules", "parts", "told"]
theorem sc_after_clearing : FnScope N_after_clearing ["rules", "parts"] (defScope st_after_clearing) := ⟨rfl, rfl, rfl, by decide +kernel, rfl, by decide +kernel, by decide +kernel⟩
abbrev N_after_turn : List Str := ["rules", "parts", "segments", "acknowledgments", "turn", "sent", "told", "timer"]
theorem sc_after_turn : FnScope N_after_turn ["rules", "parts"] (defScope st_after_turn) := ⟨rfl, rfl, rfl, by decide +kernel, rfl, by decide +kernel, by decide +kernel⟩
abbrev N_first_parts : List Str := ["quick"]
theorem sc_first_parts : FnScope N_first_parts ["quick"] (defScope st_first_parts) := ⟨rfl, rfl, rfl, by decide +kernel, rfl, by decide +kernel, by decide +kernel⟩
abbrev N_first_quick : List Str := ["setting", "policy"]
theorem sc_first_quick : FnScope N_first_quick ["setting"] (defScope st_first_quick) := ⟨rfl, rfl, rfl, by decide +kernel, rfl, by decide +kernel, by decide +kernel⟩
abbrev N_with_quick : List Str := ["quick", "endpoint", "many"]
theorem sc_with_quick : FnScope N_with_quick ["quick", "endpoint", "many"] (defScope st_with_quick) := ⟨rfl, rfl, rfl, by decide +kernel, rfl, by decide +kernel, by decide +kernel⟩
abbrev N_clearings_of : List Str := ["rules", "parts", "found", "many", "after"]
theorem sc_clearings_of : FnScope N_clearings_of ["rules", "parts"] (defScope st_clearings_of) := ⟨rfl, rfl, rfl, by decide +kernel, rfl, by decide +kernel, by decide +kernel⟩
abbrev N_turn_ends : List Str := ["rules", "writes", "quick", "reached", "index", "write", "behind", "parts", "ways", "many", "ready", "after", "ends", "end"]
theorem sc_turn_ends : FnScope N_turn_ends ["rules", "writes", "quick"] (defScope st_turn_ends) := ⟨rfl, rfl, rfl, by decide +kernel, rfl, by decide +kernel, by decide +kernel⟩
abbrev N_best_orders : List Str := ["setting", "conversation", "sign", "best", "speaker", "start", "stop", "rules", "behind", "quick", "stalls", "order", "ends", "stall", "left", "there", "found"]
theorem sc_best_orders : FnScope N_best_orders ["setting", "conversation", "sign"] (defScope st_best_orders) := ⟨rfl, rfl, rfl, by decide +kernel, rfl, by decide +kernel, by decide +kernel⟩
abbrev N_least : List Str := ["setting", "conversation"]
theorem sc_least : FnScope N_least ["setting", "conversation"] (defScope st_least) := ⟨rfl, rfl, rfl, by decide +kernel, rfl, by decide +kernel, by decide +kernel⟩
abbrev N_most : List Str := ["setting", "conversation"]
theorem sc_most : FnScope N_most ["setting", "conversation"] (defScope st_most) := ⟨rfl, rfl, rfl, by decide +kernel, rfl, by decide +kernel, by decide +kernel⟩
abbrev N_Side_init : List Str := ["self", "values"]
theorem sc_Side_init : FnScope N_Side_init ["self", "values"] (defScope st_Side_init) := ⟨rfl, rfl, rfl, by decide +kernel, rfl, by decide +kernel, by decide +kernel⟩
abbrev N_Side_packed : List Str := ["self"]
theorem sc_Side_packed : FnScope N_Side_packed ["self"] (defScope st_Side_packed) := ⟨rfl, rfl, rfl, by decide +kernel, rfl, by decide +kernel, by decide +kernel⟩
abbrev N_Side_permits : List Str := ["self", "hold"]
theorem sc_Side_permits : FnScope N_Side_permits ["self", "hold"] (defScope st_Side_permits) := ⟨rfl, rfl, rfl, by decide +kernel, rfl, by decide +kernel, by decide +kernel⟩
abbrev N_Draft_init : List Str := ["self", "setting", "scene", "values", "way"]
theorem sc_Draft_init : FnScope N_Draft_init ["self", "setting", "scene"] (defScope st_Draft_init) := ⟨rfl, rfl, rfl, by decide +kernel, rfl, by decide +kernel, by decide +kernel⟩
abbrev N_Draft_packed : List Str := ["self", "sides", "side", "way"]
theorem sc_Draft_packed : FnScope N_Draft_packed ["self"] (defScope st_Draft_packed) := ⟨rfl, rfl, rfl, by decide +kernel, rfl, by decide +kernel, by decide +kernel⟩
abbrev N_Draft_send : List Str := ["self", "endpoint", "count", "side"]
theorem sc_Draft_send : FnScope N_Draft_send ["self", "endpoint", "count"] (defScope st_Draft_send) := ⟨rfl, rfl, rfl, by decide +kernel, rfl, by decide +kernel, by decide +kernel⟩
abbrev N_Draft_write : List Str := ["self", "endpoint", "length", "mode", "side"]
theorem sc_Draft_write : FnScope N_Draft_write ["self", "endpoint", "length", "mode"] (defScope st_Draft_write) := ⟨rfl, rfl, rfl, by decide +kernel, rfl, by decide +kernel, by decide +kernel⟩
abbrev N_Draft_arrive : List Str := ["self", "sender", "count", "covers", "endpoint", "side", "policy", "is_full"]
theorem sc_Draft_arrive : FnScope N_Draft_arrive ["self", "sender"] (defScope st_Draft_arrive) := ⟨rfl, rfl, rfl, by decide +kernel, rfl, by decide +kernel, by decide +kernel⟩
abbrev N_Draft_fire : List Str := ["self", "speaker"]
theorem sc_Draft_fire : FnScope N_Draft_fire ["self", "speaker"] (defScope st_Draft_fire) := ⟨rfl, rfl, rfl, by decide +kernel, rfl, by decide +kernel, by decide +kernel⟩
abbrev N_Rules_init : List Str := ["self", "setting", "conversation", "bound", "endpoint", "length", "mode", "many", "zero", "one"]
theorem sc_Rules_init : FnScope N_Rules_init ["self", "setting", "conversation", "bound"] (defScope st_Rules_init) := ⟨rfl, rfl, rfl, by decide +kernel, rfl, by decide +kernel, by decide +kernel⟩
abbrev N_Rules_first : List Str := ["self", "side"]
theorem sc_Rules_first : FnScope N_Rules_first ["self"] (defScope st_Rules_first) := ⟨rfl, rfl, rfl, by decide +kernel, rfl, by decide +kernel, by decide +kernel⟩
abbrev N_Rules_heard_all : List Str := ["self", "scene", "endpoint"]
theorem sc_Rules_heard_all : FnScope N_Rules_heard_all ["self", "scene", "endpoint"] (defScope st_Rules_heard_all) := ⟨rfl, rfl, rfl, by decide +kernel, rfl, by decide +kernel, by decide +kernel⟩
abbrev N_Rules_finished : List Str := ["self", "scene", "made"]
theorem sc_Rules_finished : FnScope N_Rules_finished ["self", "scene"] (defScope st_Rules_finished) := ⟨rfl, rfl, rfl, by decide +kernel, rfl, by decide +kernel, by decide +kernel⟩
abbrev N_Rules_possible : List Str := ["self", "scene", "found", "made", "name", "way"]
theorem sc_Rules_possible : FnScope N_Rules_possible ["self", "scene"] (defScope st_Rules_possible) := ⟨rfl, rfl, rfl, by decide +kernel, rfl, by decide +kernel, by decide +kernel⟩
abbrev N_Rules_after : List Str := ["self", "scene", "event", "draft", "endpoint", "length", "mode"]
theorem sc_Rules_after : FnScope N_Rules_after ["self", "scene", "event"] (defScope st_Rules_after) := ⟨rfl, rfl, rfl, by decide +kernel, rfl, by decide +kernel, by decide +kernel⟩
abbrev N_Road_init : List Str := ["self", "setting", "conversation"]
theorem sc_Road_init : FnScope N_Road_init ["self", "setting", "conversation"] (defScope st_Road_init) := ⟨rfl, rfl, rfl, by decide +kernel, rfl, by decide +kernel, by decide +kernel⟩
abbrev N_Road_possible : List Str := ["self"]
theorem sc_Road_possible : FnScope N_Road_possible ["self"] (defScope st_Road_possible) := ⟨rfl, rfl, rfl, by decide +kernel, rfl, by decide +kernel, by decide +kernel⟩
abbrev N_Road_do : List Str := ["self", "event"]
theorem sc_Road_do : FnScope N_Road_do ["self", "event"] (defScope st_Road_do) := ⟨rfl, rfl, rfl, by decide +kernel, rfl, by decide +kernel, by decide +kernel⟩
abbrev N_Road_stall_count : List Str := ["self"]
theorem sc_Road_stall_count : FnScope N_Road_stall_count ["self"] (defScope st_Road_stall_count) := ⟨rfl, rfl, rfl, by decide +kernel, rfl, by decide +kernel, by decide +kernel⟩
abbrev N_Road_is_over : List Str := ["self"]
theorem sc_Road_is_over : FnScope N_Road_is_over ["self"] (defScope st_Road_is_over) := ⟨rfl, rfl, rfl, by decide +kernel, rfl, by decide +kernel, by decide +kernel⟩
abbrev N_Road_way_from : List Str := ["self", "endpoint"]
theorem sc_Road_way_from : FnScope N_Road_way_from ["self", "endpoint"] (defScope st_Road_way_from) := ⟨rfl, rfl, rfl, by decide +kernel, rfl, by decide +kernel, by decide +kernel⟩
abbrev N_Road_clearing : List Str := ["self", "made", "before", "speaker", "sender", "turn"]
theorem sc_Road_clearing : FnScope N_Road_clearing ["self"] (defScope st_Road_clearing) := ⟨rfl, rfl, rfl, by decide +kernel, rfl, by decide +kernel, by decide +kernel⟩
abbrev N_Road_settle : List Str := ["self"]
theorem sc_Road_settle : FnScope N_Road_settle ["self"] (defScope st_Road_settle) := ⟨rfl, rfl, rfl, by decide +kernel, rfl, by decide +kernel, by decide +kernel⟩
abbrev N_Road_end_turn : List Str := ["self"]
theorem sc_Road_end_turn : FnScope N_Road_end_turn ["self"] (defScope st_Road_end_turn) := ⟨rfl, rfl, rfl, by decide +kernel, rfl, by decide +kernel, by decide +kernel⟩
abbrev N_Road_play : List Str := ["self", "order", "road", "plan", "index", "write", "turn"]
theorem sc_Road_play : FnScope N_Road_play ["self", "order"] (defScope st_Road_play) := ⟨rfl, rfl, rfl, by decide +kernel, rfl, by decide +kernel, by decide +kernel⟩
abbrev N_Searched_init : List Str := ["self", "rules"]
theorem sc_Searched_init : FnScope N_Searched_init ["self", "rules"] (defScope st_Searched_init) := ⟨rfl, rfl, rfl, by decide +kernel, rfl, by decide +kernel, by decide +kernel⟩
abbrev N_Searched_key_of : List Str := ["self", "scene"]
theorem sc_Searched_key_of : FnScope N_Searched_key_of ["self", "scene"] (defScope st_Searched_key_of) := ⟨rfl, rfl, rfl, by decide +kernel, rfl, by decide +kernel, by decide +kernel⟩
abbrev N_Searched_from_here : List Str := ["self", "scene", "key", "rows", "event", "there", "fewest", "most", "more", "least", "row"]
theorem sc_Searched_from_here : FnScope N_Searched_from_here ["self", "scene"] (defScope st_Searched_from_here) := ⟨rfl, rfl, rfl, by decide +kernel, rfl, by decide +kernel, by decide +kernel⟩
abbrev N_Searched_sequence : List Str := ["self", "which", "scene", "found", "event"]
theorem sc_Searched_sequence : FnScope N_Searched_sequence ["self", "which"] (defScope st_Searched_sequence) := ⟨rfl, rfl, rfl, by decide +kernel, rfl, by decide +kernel, by decide +kernel⟩
abbrev N_search : List Str := ["setting", "conversation", "searched", "fewest", "most"]
theorem sc_search : FnScope N_search ["setting", "conversation"] (defScope st_search) := ⟨rfl, rfl, rfl, by decide +kernel, rfl, by decide +kernel, by decide +kernel⟩
abbrev N_law_bag : List Str := ["_law_script", "_law_at", "_law_cell"]
theorem sc_law_bag : FnScope N_law_bag ["_law_script", "_law_at"] (defScope st_law_bag) := ⟨rfl, rfl, rfl, by decide +kernel, rfl, by decide +kernel, by decide +kernel⟩
abbrev N_law_take : List Str := ["_law_bag_here", "_law_many", "_law_digit"]
theorem sc_law_take : FnScope N_law_take ["_law_bag_here", "_law_many"] (defScope st_law_take) := ⟨rfl, rfl, rfl, by decide +kernel, rfl, by decide +kernel, by decide +kernel⟩
abbrev N_law_policy : List Str := ["_law_bag_here", "_law_held"]
theorem sc_law_policy : FnScope N_law_policy ["_law_bag_here"] (defScope st_law_policy) := ⟨rfl, rfl, rfl, by decide +kernel, rfl, by decide +kernel, by decide +kernel⟩
abbrev N_law_setting : List Str := ["_law_bag_here", "_law_limit", "_law_size", "_law_first"]
theorem sc_law_setting : FnScope N_law_setting ["_law_bag_here", "_law_limit"] (defScope st_law_setting) := ⟨rfl, rfl, rfl, by decide +kernel, rfl, by decide +kernel, by decide +kernel⟩
abbrev N_law_words : List Str := ["_law_bag_here", "_law_size", "_law_limit", "_law_found", "_law_who", "_law_count", "_law_turn", "_law_length"]
theorem sc_law_words : FnScope N_law_words ["_law_bag_here", "_law_size", "_law_limit"] (defScope st_law_words) := ⟨rfl, rfl, rfl, by decide +kernel, rfl, by decide +kernel, by decide +kernel⟩
abbrev N_law_lists : List Str := ["_law_words_here", "_law_found", "_law_k", "_law_longer", "_law_plan", "_law_count"]
theorem sc_law_lists : FnScope N_law_lists ["_law_words_here"] (defScope st_law_lists) := ⟨rfl, rfl, rfl, by decide +kernel, rfl, by decide +kernel, by decide +kernel⟩
abbrev N_law_right : List Str := ["_law_bag_here", "_law_setting_here", "_law_words_here", "_law_road", "_law_found", "_law_told", "_law_pair", "_law_due", "_law_plan"]
theorem sc_law_right : FnScope N_law_right ["_law_bag_here"] (defScope st_law_right) := ⟨rfl, rfl, rfl, by decide +kernel, rfl, by decide +kernel, by decide +kernel⟩
abbrev N_law : List Str := ["_law_script", "_law_at"]
theorem sc_law : FnScope N_law ["_law_script"] (defScope st_law) := ⟨rfl, rfl, rfl, by decide +kernel, rfl, by decide +kernel, by decide +kernel⟩

/-! ### addresses and facts by names -/
/-- where a class's property's getter stands -/
def pa (K : PySem.W.Frag) (C f : Str) : Addr := match PySem.W.findIn K (.ref (He.ga K C)) f with
  | some (some (.ref p)) => (match PySem.W.recIn K p "property" with
    | some (.ref g :: _) => g
    | _ => 0)
  | _ => 0
/-- a def as it stands, at an address told by the written part -/
structure DefA where
  adr : PySem.W.Frag → Addr
  name : Str
  qual : Str
  st : Stmt
  dfl : List He.Dv := []
  kwd : List (Str × He.Dv) := []
def DefA.Is (K : PySem.W.Frag) (d : DefA) : Prop := ∃ fd, FunD K d.name d.qual (defArgs d.st) (defBody d.st) (defScope d.st) (d.dfl.map (He.Dv.v K)) (d.kwd.map fun q => (q.1, q.2.v K)) (d.adr K) fd
def d_in_integer : DefA := { adr := fun K => He.ga K "is_integer", name := "is_integer", qual := "is_integer", st := st_in_integer }
def d_in_range : DefA := { adr := fun K => He.ga K "in_range", name := "in_range", qual := "in_range", st := st_in_range }
def d_Policy_init : DefA := { adr := fun K => He.ma K (He.ga K "Policy") "__init__", name := "__init__", qual := "Policy.__init__", st := st_Policy_init, dfl := [.str "all"], kwd := [("every", .int 2), ("quick", .int 0)] }
def d_Setting_init : DefA := { adr := fun K => He.ma K (He.ga K "Setting") "__init__", name := "__init__", qual := "Setting.__init__", st := st_Setting_init }
def d_is_write : DefA := { adr := fun K => He.ga K "is_write", name := "is_write", qual := "is_write", st := st_is_write }
def d_check : DefA := { adr := fun K => He.ga K "check", name := "check", qual := "check", st := st_check }
def d_split_turns : DefA := { adr := fun K => He.ga K "split_turns", name := "split_turns", qual := "split_turns", st := st_split_turns }
def d_normal_order : DefA := { adr := fun K => He.ga K "normal_order", name := "normal_order", qual := "normal_order", st := st_normal_order }
def d_rules_of : DefA := { adr := fun K => He.ga K "rules_of", name := "rules_of", qual := "rules_of", st := st_rules_of }
def d_with_full : DefA := { adr := fun K => He.ga K "with_full", name := "with_full", qual := "with_full", st := st_with_full }
def d_with_partial : DefA := { adr := fun K => He.ga K "with_partial", name := "with_partial", qual := "with_partial", st := st_with_partial }
def d_after_write : DefA := { adr := fun K => He.ga K "after_write", name := "after_write", qual := "after_write", st := st_after_write }
def d_after_clearing : DefA := { adr := fun K => He.ga K "after_clearing", name := "after_clearing", qual := "after_clearing", st := st_after_clearing }
def d_after_turn : DefA := { adr := fun K => He.ga K "after_turn", name := "after_turn", qual := "after_turn", st := st_after_turn }
def d_first_parts : DefA := { adr := fun K => He.ga K "first_parts", name := "first_parts", qual := "first_parts", st := st_first_parts }
def d_first_quick : DefA := { adr := fun K => He.ga K "first_quick", name := "first_quick", qual := "first_quick", st := st_first_quick }
def d_with_quick : DefA := { adr := fun K => He.ga K "with_quick", name := "with_quick", qual := "with_quick", st := st_with_quick }
def d_clearings_of : DefA := { adr := fun K => He.ga K "clearings_of", name := "clearings_of", qual := "clearings_of", st := st_clearings_of }
def d_turn_ends : DefA := { adr := fun K => He.ga K "turn_ends", name := "turn_ends", qual := "turn_ends", st := st_turn_ends }
def d_best_orders : DefA := { adr := fun K => He.ga K "best_orders", name := "best_orders", qual := "best_orders", st := st_best_orders }
def d_least : DefA := { adr := fun K => He.ga K "least", name := "least", qual := "least", st := st_least }
def d_most : DefA := { adr := fun K => He.ga K "most", name := "most", qual := "most", st := st_most }
def d_Side_init : DefA := { adr := fun K => He.ma K (He.ga K "Side") "__init__", name := "__init__", qual := "Side.__init__", st := st_Side_init }
def d_Side_packed : DefA := { adr := fun K => He.ma K (He.ga K "Side") "packed", name := "packed", qual := "Side.packed", st := st_Side_packed }
def d_Side_permits : DefA := { adr := fun K => He.ma K (He.ga K "Side") "permits", name := "permits", qual := "Side.permits", st := st_Side_permits }
def d_Draft_init : DefA := { adr := fun K => He.ma K (He.ga K "Draft") "__init__", name := "__init__", qual := "Draft.__init__", st := st_Draft_init }
def d_Draft_packed : DefA := { adr := fun K => He.ma K (He.ga K "Draft") "packed", name := "packed", qual := "Draft.packed", st := st_Draft_packed }
def d_Draft_send : DefA := { adr := fun K => He.ma K (He.ga K "Draft") "send", name := "send", qual := "Draft.send", st := st_Draft_send }
def d_Draft_write : DefA := { adr := fun K => He.ma K (He.ga K "Draft") "write", name := "write", qual := "Draft.write", st := st_Draft_write }
def d_Draft_arrive : DefA := { adr := fun K => He.ma K (He.ga K "Draft") "arrive", name := "arrive", qual := "Draft.arrive", st := st_Draft_arrive }
def d_Draft_fire : DefA := { adr := fun K => He.ma K (He.ga K "Draft") "fire", name := "fire", qual := "Draft.fire", st := st_Draft_fire }
def d_Rules_init : DefA := { adr := fun K => He.ma K (He.ga K "Rules") "__init__", name := "__init__", qual := "Rules.__init__", st := st_Rules_init }
def d_Rules_first : DefA := { adr := fun K => He.ma K (He.ga K "Rules") "first", name := "first", qual := "Rules.first", st := st_Rules_first }
def d_Rules_heard_all : DefA := { adr := fun K => He.ma K (He.ga K "Rules") "heard_all", name := "heard_all", qual := "Rules.heard_all", st := st_Rules_heard_all }
def d_Rules_finished : DefA := { adr := fun K => He.ma K (He.ga K "Rules") "finished", name := "finished", qual := "Rules.finished", st := st_Rules_finished }
def d_Rules_possible : DefA := { adr := fun K => He.ma K (He.ga K "Rules") "possible", name := "possible", qual := "Rules.possible", st := st_Rules_possible }
def d_Rules_after : DefA := { adr := fun K => He.ma K (He.ga K "Rules") "after", name := "after", qual := "Rules.after", st := st_Rules_after }
def d_Road_init : DefA := { adr := fun K => He.ma K (He.ga K "Road") "__init__", name := "__init__", qual := "Road.__init__", st := st_Road_init }
def d_Road_possible : DefA := { adr := fun K => He.ma K (He.ga K "Road") "possible", name := "possible", qual := "Road.possible", st := st_Road_possible }
def d_Road_do : DefA := { adr := fun K => He.ma K (He.ga K "Road") "do", name := "do", qual := "Road.do", st := st_Road_do }
def d_Road_stall_count : DefA := { adr := fun K => pa K "Road" "stall_count", name := "stall_count", qual := "Road.stall_count", st := st_Road_stall_count }
def d_Road_is_over : DefA := { adr := fun K => pa K "Road" "is_over", name := "is_over", qual := "Road.is_over", st := st_Road_is_over }
def d_Road_way_from : DefA := { adr := fun K => He.ma K (He.ga K "Road") "way_from", name := "way_from", qual := "Road.way_from", st := st_Road_way_from }
def d_Road_clearing : DefA := { adr := fun K => He.ma K (He.ga K "Road") "clearing", name := "clearing", qual := "Road.clearing", st := st_Road_clearing }
def d_Road_settle : DefA := { adr := fun K => He.ma K (He.ga K "Road") "settle", name := "settle", qual := "Road.settle", st := st_Road_settle }
def d_Road_end_turn : DefA := { adr := fun K => He.ma K (He.ga K "Road") "end_turn", name := "end_turn", qual := "Road.end_turn", st := st_Road_end_turn }
def d_Road_play : DefA := { adr := fun K => He.ma K (He.ga K "Road") "play", name := "play", qual := "Road.play", st := st_Road_play, dfl := [.str "quick"] }
def d_Searched_init : DefA := { adr := fun K => He.ma K (He.ga K "Searched") "__init__", name := "__init__", qual := "Searched.__init__", st := st_Searched_init }
def d_Searched_key_of : DefA := { adr := fun K => He.ma K (He.ga K "Searched") "key_of", name := "key_of", qual := "Searched.key_of", st := st_Searched_key_of }
def d_Searched_from_here : DefA := { adr := fun K => He.ma K (He.ga K "Searched") "from_here", name := "from_here", qual := "Searched.from_here", st := st_Searched_from_here }
def d_Searched_sequence : DefA := { adr := fun K => He.ma K (He.ga K "Searched") "sequence", name := "sequence", qual := "Searched.sequence", st := st_Searched_sequence }
def d_search : DefA := { adr := fun K => He.ga K "search", name := "search", qual := "search", st := st_search }
def d_law_bag : DefA := { adr := fun K => He.ga K "_law_bag", name := "_law_bag", qual := "_law_bag", st := st_law_bag }
def d_law_take : DefA := { adr := fun K => He.ga K "_law_take", name := "_law_take", qual := "_law_take", st := st_law_take }
def d_law_policy : DefA := { adr := fun K => He.ga K "_law_policy", name := "_law_policy", qual := "_law_policy", st := st_law_policy }
def d_law_setting : DefA := { adr := fun K => He.ga K "_law_setting", name := "_law_setting", qual := "_law_setting", st := st_law_setting }
def d_law_words : DefA := { adr := fun K => He.ga K "_law_words", name := "_law_words", qual := "_law_words", st := st_law_words }
def d_law_lists : DefA := { adr := fun K => He.ga K "_law_lists", name := "_law_lists", qual := "_law_lists", st := st_law_lists }
def d_law_right : DefA := { adr := fun K => He.ga K "_law_right", name := "_law_right", qual := "_law_right", st := st_law_right }
def d_law : DefA := { adr := fun K => He.ga K "law", name := "law", qual := "law", st := st_law }
def defsL0 : List DefA := [d_in_integer, d_in_range, d_Policy_init, d_Setting_init, d_is_write, d_check, d_split_turns, d_normal_order, d_rules_of, d_with_full, d_with_partial, d_after_write, d_after_clearing, d_after_turn, d_first_parts, d_first_quick, d_with_quick, d_clearings_of, d_turn_ends, d_best_orders, d_least, d_most, d_Side_init, d_Side_packed, d_Side_permits, d_Draft_init, d_Draft_packed, d_Draft_send, d_Draft_write, d_Draft_arrive]
def defsL1 : List DefA := [d_Draft_fire, d_Rules_init, d_Rules_first, d_Rules_heard_all, d_Rules_finished, d_Rules_possible, d_Rules_after, d_Road_init, d_Road_possible, d_Road_do, d_Road_stall_count, d_Road_is_over, d_Road_way_from, d_Road_clearing, d_Road_settle, d_Road_end_turn, d_Road_play, d_Searched_init, d_Searched_key_of, d_Searched_from_here, d_Searched_sequence, d_search, d_law_bag, d_law_take, d_law_policy, d_law_setting, d_law_words, d_law_lists, d_law_right, d_law]
def defsL : List DefA := defsL0 ++ defsL1
def gloL0 : List Str := ["is_integer", "in_range", "is_write", "check", "split_turns", "normal_order", "rules_of", "with_full", "with_partial", "after_write", "after_clearing", "after_turn", "first_parts", "first_quick", "with_quick", "clearings_of", "turn_ends", "best_orders", "least", "most", "search", "_law_bag", "_law_take", "_law_policy", "_law_setting", "_law_words", "_law_lists", "_law_right", "law", "Policy"]
def gloL1 : List Str := ["Setting", "Side", "Draft", "Rules", "Road", "Searched"]
def gloL : List Str := gloL0 ++ gloL1
def freeL : List Str := ["isinstance", "int", "bool", "str", "list", "tuple", "len", "max", "min", "sum", "range", "enumerate", "zip", "abs", "all", "divmod"]
def clsL : List Str := ["Policy", "Setting", "Side", "Draft", "Rules", "Road", "Searched"]
def intL : List (Str × Int) := [("MOST_EVERY", 9), ("MOST_QUICK", 4), ("MOST_SIZE", 10 ^ 18), ("MOST_WRITES", 200), ("MOST_LENGTH", 10 ^ 18), ("MOST_SEGMENTS", 300), ("MOST_SEARCHED", 24)]
def strL : List (Str × Str) := [("WRITE", "write"), ("TIMER", "timer")]
def noatL : List (Str × Str) := [("Policy", "hold"), ("Policy", "every"), ("Policy", "quick"), ("Setting", "size"), ("Setting", "policies"), ("Side", "waiting"), ("Side", "corked"), ("Side", "out"), ("Side", "covered"), ("Side", "heard"), ("Side", "fulls"), ("Side", "arrived"), ("Side", "mark"), ("Draft", "setting"), ("Draft", "made"), ("Draft", "stalls"), ("Draft", "sides"), ("Draft", "ways"), ("Rules", "setting"), ("Rules", "writes"), ("Rules", "given"), ("Road", "rules"), ("Road", "scenes"), ("Road", "deeds"), ("Road", "floor"), ("Searched", "rules"), ("Searched", "known")]
def methL : List (Str × Str) := [("Side", "packed"), ("Side", "permits"), ("Draft", "packed"), ("Draft", "send"), ("Draft", "write"), ("Draft", "arrive"), ("Draft", "fire"), ("Rules", "first"), ("Rules", "heard_all"), ("Rules", "finished"), ("Rules", "possible"), ("Rules", "after"), ("Road", "possible"), ("Road", "do"), ("Road", "way_from"), ("Road", "clearing"), ("Road", "settle"), ("Road", "end_turn"), ("Road", "play"), ("Searched", "key_of"), ("Searched", "from_here"), ("Searched", "sequence")]
/-- what the top has made, as the walk asks it -/
structure Txt (K : PySem.W.Frag) (mg : Str → Option Value) : Prop where
  glo : ∀ x ∈ gloL, mg x = some (.ref (He.ga K x))
  keep : ∀ x ∈ gloL, PySem.W.keepIn K (.ref (He.ga K x)) = true
  free : ∀ x ∈ freeL, mg x = none
  int : ∀ p ∈ intL, ∃ t, mg p.1 = some (.int p.2 t)
  str : ∀ p ∈ strL, ∃ t, mg p.1 = some (.str p.2 t)
  cls : ∀ x ∈ clsL, Cls K (He.ga K x)
  mkr : ∀ x ∈ clsL, Mk K (He.ga K x) (He.ma K (He.ga K x) "__init__")
  noat : ∀ p ∈ noatL, NoAttr K (He.ga K p.1) p.2
  meth : ∀ p ∈ methL, Meth K (He.ga K p.1) p.2 (He.ma K (He.ga K p.1) p.2)
  defs : ∀ d ∈ defsL, d.Is K
  over : ∃ p, PropOf K (He.ga K "Road") "is_over" p (pa K "Road" "is_over")
  stall : ∃ p, PropOf K (He.ga K "Road") "stall_count" p (pa K "Road" "stall_count")
  modes : mg "MODES" = some (.ref (He.ga K "MODES")) ∧ ∀ H, SqT K H (He.ga K "MODES") [.str "plain", .str "push", .str "more"]
  arrs : mg "ARRIVALS" = some (.ref (He.ga K "ARRIVALS")) ∧ ∀ H, SqT K H (He.ga K "ARRIVALS") [.str "arrive 0", .str "arrive 1"]
  holds : ∃ mc T, ClX.CRead K (He.ga K "Policy") mc ∧ ClX.CVal K (He.ga K "Policy") mc "HOLDS" (.ref T) (.ref T) ∧ ∀ H, SqT K H T [.str "off", .str "partial", .str "all"]
  pol : PySem.W.kitOne K (.ref (He.ga K "Policy")) (.ref (He.ga K "Policy")) = some true
  pcls : PySem.W.findIn K (.ref (He.ga K "Policy")) "__class__" = some (some (.builtin "object.__class__"))
  pget : PySem.W.specialIn K (.builtin "object.__class__") "__get__" = some (some (.builtin "getset_descriptor.__get__"))
  ptak : PySem.W.takesIn K (.builtin "object.__class__") = some true
  arro : ∃ o, K.lookup (He.ga K "ARRIVALS") = some o ∧ o.cls = .type "tuple" ∧ o.dict = none
  pmro : PySem.W.mroIn K (He.ga K "Policy") (.type "object") = some true
section
variable {K : PySem.W.Frag} {mg : Str → Option Value}
theorem Txt.g_is_integer (T : Txt K mg) : mg "is_integer" = some (.ref (He.ga K "is_integer")) := T.glo _ (by decide +kernel)
theorem Txt.g_in_range (T : Txt K mg) : mg "in_range" = some (.ref (He.ga K "in_range")) := T.glo _ (by decide +kernel)
theorem Txt.g_is_write (T : Txt K mg) : mg "is_write" = some (.ref (He.ga K "is_write")) := T.glo _ (by decide +kernel)
theorem Txt.g_check (T : Txt K mg) : mg "check" = some (.ref (He.ga K "check")) := T.glo _ (by decide +kernel)
theorem Txt.g_split_turns (T : Txt K mg) : mg "split_turns" = some (.ref (He.ga K "split_turns")) := T.glo _ (by decide +kernel)
theorem Txt.g_normal_order (T : Txt K mg) : mg "normal_order" = some (.ref (He.ga K "normal_order")) := T.glo _ (by decide +kernel)
theorem Txt.g_rules_of (T : Txt K mg) : mg "rules_of" = some (.ref (He.ga K "rules_of")) := T.glo _ (by decide +kernel)
theorem Txt.g_with_full (T : Txt K mg) : mg "with_full" = some (.ref (He.ga K "with_full")) := T.glo _ (by decide +kernel)
theorem Txt.g_with_partial (T : Txt K mg) : mg "with_partial" = some (.ref (He.ga K "with_partial")) := T.glo _ (by decide +kernel)
theorem Txt.g_after_write (T : Txt K mg) : mg "after_write" = some (.ref (He.ga K "after_write")) := T.glo _ (by decide +kernel)
theorem Txt.g_after_clearing (T : Txt K mg) : mg "after_clearing" = some (.ref (He.ga K "after_clearing")) := T.glo _ (by decide +kernel)
theorem Txt.g_after_turn (T : Txt K mg) : mg "after_turn" = some (.ref (He.ga K "after_turn")) := T.glo _ (by decide +kernel)
theorem Txt.g_first_parts (T : Txt K mg) : mg "first_parts" = some (.ref (He.ga K "first_parts")) := T.glo _ (by decide +kernel)
theorem Txt.g_first_quick (T : Txt K mg) : mg "first_quick" = some (.ref (He.ga K "first_quick")) := T.glo _ (by decide +kernel)
theorem Txt.g_with_quick (T : Txt K mg) : mg "with_quick" = some (.ref (He.ga K "with_quick")) := T.glo _ (by decide +kernel)
theorem Txt.g_clearings_of (T : Txt K mg) : mg "clearings_of" = some (.ref (He.ga K "clearings_of")) := T.glo _ (by decide +kernel)
theorem Txt.g_turn_ends (T : Txt K mg) : mg "turn_ends" = some (.ref (He.ga K "turn_ends")) := T.glo _ (by decide +kernel)
theorem Txt.g_best_orders (T : Txt K mg) : mg "best_orders" = some (.ref (He.ga K "best_orders")) := T.glo _ (by decide +kernel)
theorem Txt.g_least (T : Txt K mg) : mg "least" = some (.ref (He.ga K "least")) := T.glo _ (by decide +kernel)
theorem Txt.g_most (T : Txt K mg) : mg "most" = some (.ref (He.ga K "most")) := T.glo _ (by decide +kernel)
theorem Txt.g_search (T : Txt K mg) : mg "search" = some (.ref (He.ga K "search")) := T.glo _ (by decide +kernel)
theorem Txt.g__law_bag (T : Txt K mg) : mg "_law_bag" = some (.ref (He.ga K "_law_bag")) := T.glo _ (by decide +kernel)
theorem Txt.g__law_take (T : Txt K mg) : mg "_law_take" = some (.ref (He.ga K "_law_take")) := T.glo _ (by decide +kernel)
theorem Txt.g__law_policy (T : Txt K mg) : mg "_law_policy" = some (.ref (He.ga K "_law_policy")) := T.glo _ (by decide +kernel)
theorem Txt.g__law_setting (T : Txt K mg) : mg "_law_setting" = some (.ref (He.ga K "_law_setting")) := T.glo _ (by decide +kernel)
theorem Txt.g__law_words (T : Txt K mg) : mg "_law_words" = some (.ref (He.ga K "_law_words")) := T.glo _ (by decide +kernel)
theorem Txt.g__law_lists (T : Txt K mg) : mg "_law_lists" = some (.ref (He.ga K "_law_lists")) := T.glo _ (by decide +kernel)
theorem Txt.g__law_right (T : Txt K mg) : mg "_law_right" = some (.ref (He.ga K "_law_right")) := T.glo _ (by decide +kernel)
theorem Txt.g_law (T : Txt K mg) : mg "law" = some (.ref (He.ga K "law")) := T.glo _ (by decide +kernel)
theorem Txt.g_Policy (T : Txt K mg) : mg "Policy" = some (.ref (He.ga K "Policy")) := T.glo _ (by decide +kernel)
theorem Txt.g_Setting (T : Txt K mg) : mg "Setting" = some (.ref (He.ga K "Setting")) := T.glo _ (by decide +kernel)
theorem Txt.g_Side (T : Txt K mg) : mg "Side" = some (.ref (He.ga K "Side")) := T.glo _ (by decide +kernel)
theorem Txt.g_Draft (T : Txt K mg) : mg "Draft" = some (.ref (He.ga K "Draft")) := T.glo _ (by decide +kernel)
theorem Txt.g_Rules (T : Txt K mg) : mg "Rules" = some (.ref (He.ga K "Rules")) := T.glo _ (by decide +kernel)
theorem Txt.g_Road (T : Txt K mg) : mg "Road" = some (.ref (He.ga K "Road")) := T.glo _ (by decide +kernel)
theorem Txt.g_Searched (T : Txt K mg) : mg "Searched" = some (.ref (He.ga K "Searched")) := T.glo _ (by decide +kernel)
theorem Txt.f_isinstance (T : Txt K mg) : mg "isinstance" = none := T.free _ (by decide +kernel)
theorem Txt.f_int (T : Txt K mg) : mg "int" = none := T.free _ (by decide +kernel)
theorem Txt.f_bool (T : Txt K mg) : mg "bool" = none := T.free _ (by decide +kernel)
theorem Txt.f_str (T : Txt K mg) : mg "str" = none := T.free _ (by decide +kernel)
theorem Txt.f_list (T : Txt K mg) : mg "list" = none := T.free _ (by decide +kernel)
theorem Txt.f_tuple (T : Txt K mg) : mg "tuple" = none := T.free _ (by decide +kernel)
theorem Txt.f_len (T : Txt K mg) : mg "len" = none := T.free _ (by decide +kernel)
theorem Txt.f_max (T : Txt K mg) : mg "max" = none := T.free _ (by decide +kernel)
theorem Txt.f_min (T : Txt K mg) : mg "min" = none := T.free _ (by decide +kernel)
theorem Txt.f_sum (T : Txt K mg) : mg "sum" = none := T.free _ (by decide +kernel)
theorem Txt.f_range (T : Txt K mg) : mg "range" = none := T.free _ (by decide +kernel)
theorem Txt.f_enumerate (T : Txt K mg) : mg "enumerate" = none := T.free _ (by decide +kernel)
theorem Txt.f_zip (T : Txt K mg) : mg "zip" = none := T.free _ (by decide +kernel)
theorem Txt.f_abs (T : Txt K mg) : mg "abs" = none := T.free _ (by decide +kernel)
theorem Txt.f_all (T : Txt K mg) : mg "all" = none := T.free _ (by decide +kernel)
theorem Txt.f_divmod (T : Txt K mg) : mg "divmod" = none := T.free _ (by decide +kernel)
theorem Txt.i_MOST_EVERY (T : Txt K mg) : ∃ t, mg "MOST_EVERY" = some (.int (9) t) := T.int ("MOST_EVERY", 9) (by decide +kernel)
theorem Txt.i_MOST_QUICK (T : Txt K mg) : ∃ t, mg "MOST_QUICK" = some (.int (4) t) := T.int ("MOST_QUICK", 4) (by decide +kernel)
theorem Txt.i_MOST_SIZE (T : Txt K mg) : ∃ t, mg "MOST_SIZE" = some (.int (10 ^ 18) t) := T.int ("MOST_SIZE", 10 ^ 18) (by decide +kernel)
theorem Txt.i_MOST_WRITES (T : Txt K mg) : ∃ t, mg "MOST_WRITES" = some (.int (200) t) := T.int ("MOST_WRITES", 200) (by decide +kernel)
theorem Txt.i_MOST_LENGTH (T : Txt K mg) : ∃ t, mg "MOST_LENGTH" = some (.int (10 ^ 18) t) := T.int ("MOST_LENGTH", 10 ^ 18) (by decide +kernel)
theorem Txt.i_MOST_SEGMENTS (T : Txt K mg) : ∃ t, mg "MOST_SEGMENTS" = some (.int (300) t) := T.int ("MOST_SEGMENTS", 300) (by decide +kernel)
theorem Txt.i_MOST_SEARCHED (T : Txt K mg) : ∃ t, mg "MOST_SEARCHED" = some (.int (24) t) := T.int ("MOST_SEARCHED", 24) (by decide +kernel)
theorem Txt.s_WRITE (T : Txt K mg) : ∃ t, mg "WRITE" = some (.str "write" t) := T.str ("WRITE", "write") (by decide +kernel)
theorem Txt.s_TIMER (T : Txt K mg) : ∃ t, mg "TIMER" = some (.str "timer" t) := T.str ("TIMER", "timer") (by decide +kernel)
theorem Txt.c_Policy (T : Txt K mg) : Cls K (He.ga K "Policy") := T.cls _ (by decide +kernel)
theorem Txt.m_Policy (T : Txt K mg) : Mk K (He.ga K "Policy") (He.ma K (He.ga K "Policy") "__init__") := T.mkr _ (by decide +kernel)
theorem Txt.n_Policy_hold (T : Txt K mg) : NoAttr K (He.ga K "Policy") "hold" := T.noat ("Policy", "hold") (by decide +kernel)
theorem Txt.n_Policy_every (T : Txt K mg) : NoAttr K (He.ga K "Policy") "every" := T.noat ("Policy", "every") (by decide +kernel)
theorem Txt.n_Policy_quick (T : Txt K mg) : NoAttr K (He.ga K "Policy") "quick" := T.noat ("Policy", "quick") (by decide +kernel)
theorem Txt.c_Setting (T : Txt K mg) : Cls K (He.ga K "Setting") := T.cls _ (by decide +kernel)
theorem Txt.m_Setting (T : Txt K mg) : Mk K (He.ga K "Setting") (He.ma K (He.ga K "Setting") "__init__") := T.mkr _ (by decide +kernel)
theorem Txt.n_Setting_size (T : Txt K mg) : NoAttr K (He.ga K "Setting") "size" := T.noat ("Setting", "size") (by decide +kernel)
theorem Txt.n_Setting_policies (T : Txt K mg) : NoAttr K (He.ga K "Setting") "policies" := T.noat ("Setting", "policies") (by decide +kernel)
theorem Txt.c_Side (T : Txt K mg) : Cls K (He.ga K "Side") := T.cls _ (by decide +kernel)
theorem Txt.m_Side (T : Txt K mg) : Mk K (He.ga K "Side") (He.ma K (He.ga K "Side") "__init__") := T.mkr _ (by decide +kernel)
theorem Txt.n_Side_waiting (T : Txt K mg) : NoAttr K (He.ga K "Side") "waiting" := T.noat ("Side", "waiting") (by decide +kernel)
theorem Txt.n_Side_corked (T : Txt K mg) : NoAttr K (He.ga K "Side") "corked" := T.noat ("Side", "corked") (by decide +kernel)
theorem Txt.n_Side_out (T : Txt K mg) : NoAttr K (He.ga K "Side") "out" := T.noat ("Side", "out") (by decide +kernel)
theorem Txt.n_Side_covered (T : Txt K mg) : NoAttr K (He.ga K "Side") "covered" := T.noat ("Side", "covered") (by decide +kernel)
theorem Txt.n_Side_heard (T : Txt K mg) : NoAttr K (He.ga K "Side") "heard" := T.noat ("Side", "heard") (by decide +kernel)
theorem Txt.n_Side_fulls (T : Txt K mg) : NoAttr K (He.ga K "Side") "fulls" := T.noat ("Side", "fulls") (by decide +kernel)
theorem Txt.n_Side_arrived (T : Txt K mg) : NoAttr K (He.ga K "Side") "arrived" := T.noat ("Side", "arrived") (by decide +kernel)
theorem Txt.n_Side_mark (T : Txt K mg) : NoAttr K (He.ga K "Side") "mark" := T.noat ("Side", "mark") (by decide +kernel)
theorem Txt.c_Draft (T : Txt K mg) : Cls K (He.ga K "Draft") := T.cls _ (by decide +kernel)
theorem Txt.m_Draft (T : Txt K mg) : Mk K (He.ga K "Draft") (He.ma K (He.ga K "Draft") "__init__") := T.mkr _ (by decide +kernel)
theorem Txt.n_Draft_setting (T : Txt K mg) : NoAttr K (He.ga K "Draft") "setting" := T.noat ("Draft", "setting") (by decide +kernel)
theorem Txt.n_Draft_made (T : Txt K mg) : NoAttr K (He.ga K "Draft") "made" := T.noat ("Draft", "made") (by decide +kernel)
theorem Txt.n_Draft_stalls (T : Txt K mg) : NoAttr K (He.ga K "Draft") "stalls" := T.noat ("Draft", "stalls") (by decide +kernel)
theorem Txt.n_Draft_sides (T : Txt K mg) : NoAttr K (He.ga K "Draft") "sides" := T.noat ("Draft", "sides") (by decide +kernel)
theorem Txt.n_Draft_ways (T : Txt K mg) : NoAttr K (He.ga K "Draft") "ways" := T.noat ("Draft", "ways") (by decide +kernel)
theorem Txt.c_Rules (T : Txt K mg) : Cls K (He.ga K "Rules") := T.cls _ (by decide +kernel)
theorem Txt.m_Rules (T : Txt K mg) : Mk K (He.ga K "Rules") (He.ma K (He.ga K "Rules") "__init__") := T.mkr _ (by decide +kernel)
theorem Txt.n_Rules_setting (T : Txt K mg) : NoAttr K (He.ga K "Rules") "setting" := T.noat ("Rules", "setting") (by decide +kernel)
theorem Txt.n_Rules_writes (T : Txt K mg) : NoAttr K (He.ga K "Rules") "writes" := T.noat ("Rules", "writes") (by decide +kernel)
theorem Txt.n_Rules_given (T : Txt K mg) : NoAttr K (He.ga K "Rules") "given" := T.noat ("Rules", "given") (by decide +kernel)
theorem Txt.c_Road (T : Txt K mg) : Cls K (He.ga K "Road") := T.cls _ (by decide +kernel)
theorem Txt.m_Road (T : Txt K mg) : Mk K (He.ga K "Road") (He.ma K (He.ga K "Road") "__init__") := T.mkr _ (by decide +kernel)
theorem Txt.n_Road_rules (T : Txt K mg) : NoAttr K (He.ga K "Road") "rules" := T.noat ("Road", "rules") (by decide +kernel)
theorem Txt.n_Road_scenes (T : Txt K mg) : NoAttr K (He.ga K "Road") "scenes" := T.noat ("Road", "scenes") (by decide +kernel)
theorem Txt.n_Road_deeds (T : Txt K mg) : NoAttr K (He.ga K "Road") "deeds" := T.noat ("Road", "deeds") (by decide +kernel)
theorem Txt.n_Road_floor (T : Txt K mg) : NoAttr K (He.ga K "Road") "floor" := T.noat ("Road", "floor") (by decide +kernel)
theorem Txt.c_Searched (T : Txt K mg) : Cls K (He.ga K "Searched") := T.cls _ (by decide +kernel)
theorem Txt.m_Searched (T : Txt K mg) : Mk K (He.ga K "Searched") (He.ma K (He.ga K "Searched") "__init__") := T.mkr _ (by decide +kernel)
theorem Txt.n_Searched_rules (T : Txt K mg) : NoAttr K (He.ga K "Searched") "rules" := T.noat ("Searched", "rules") (by decide +kernel)
theorem Txt.n_Searched_known (T : Txt K mg) : NoAttr K (He.ga K "Searched") "known" := T.noat ("Searched", "known") (by decide +kernel)
theorem Txt.t_Side_packed (T : Txt K mg) : Meth K (He.ga K "Side") "packed" (He.ma K (He.ga K "Side") "packed") := T.meth ("Side", "packed") (by decide +kernel)
theorem Txt.t_Side_permits (T : Txt K mg) : Meth K (He.ga K "Side") "permits" (He.ma K (He.ga K "Side") "permits") := T.meth ("Side", "permits") (by decide +kernel)
theorem Txt.t_Draft_packed (T : Txt K mg) : Meth K (He.ga K "Draft") "packed" (He.ma K (He.ga K "Draft") "packed") := T.meth ("Draft", "packed") (by decide +kernel)
theorem Txt.t_Draft_send (T : Txt K mg) : Meth K (He.ga K "Draft") "send" (He.ma K (He.ga K "Draft") "send") := T.meth ("Draft", "send") (by decide +kernel)
theorem Txt.t_Draft_write (T : Txt K mg) : Meth K (He.ga K "Draft") "write" (He.ma K (He.ga K "Draft") "write") := T.meth ("Draft", "write") (by decide +kernel)
theorem Txt.t_Draft_arrive (T : Txt K mg) : Meth K (He.ga K "Draft") "arrive" (He.ma K (He.ga K "Draft") "arrive") := T.meth ("Draft", "arrive") (by decide +kernel)
theorem Txt.t_Draft_fire (T : Txt K mg) : Meth K (He.ga K "Draft") "fire" (He.ma K (He.ga K "Draft") "fire") := T.meth ("Draft", "fire") (by decide +kernel)
theorem Txt.t_Rules_first (T : Txt K mg) : Meth K (He.ga K "Rules") "first" (He.ma K (He.ga K "Rules") "first") := T.meth ("Rules", "first") (by decide +kernel)
theorem Txt.t_Rules_heard_all (T : Txt K mg) : Meth K (He.ga K "Rules") "heard_all" (He.ma K (He.ga K "Rules") "heard_all") := T.meth ("Rules", "heard_all") (by decide +kernel)
theorem Txt.t_Rules_finished (T : Txt K mg) : Meth K (He.ga K "Rules") "finished" (He.ma K (He.ga K "Rules") "finished") := T.meth ("Rules", "finished") (by decide +kernel)
theorem Txt.t_Rules_possible (T : Txt K mg) : Meth K (He.ga K "Rules") "possible" (He.ma K (He.ga K "Rules") "possible") := T.meth ("Rules", "possible") (by decide +kernel)
theorem Txt.t_Rules_after (T : Txt K mg) : Meth K (He.ga K "Rules") "after" (He.ma K (He.ga K "Rules") "after") := T.meth ("Rules", "after") (by decide +kernel)
theorem Txt.t_Road_possible (T : Txt K mg) : Meth K (He.ga K "Road") "possible" (He.ma K (He.ga K "Road") "possible") := T.meth ("Road", "possible") (by decide +kernel)
theorem Txt.t_Road_do (T : Txt K mg) : Meth K (He.ga K "Road") "do" (He.ma K (He.ga K "Road") "do") := T.meth ("Road", "do") (by decide +kernel)
theorem Txt.t_Road_way_from (T : Txt K mg) : Meth K (He.ga K "Road") "way_from" (He.ma K (He.ga K "Road") "way_from") := T.meth ("Road", "way_from") (by decide +kernel)
theorem Txt.t_Road_clearing (T : Txt K mg) : Meth K (He.ga K "Road") "clearing" (He.ma K (He.ga K "Road") "clearing") := T.meth ("Road", "clearing") (by decide +kernel)
theorem Txt.t_Road_settle (T : Txt K mg) : Meth K (He.ga K "Road") "settle" (He.ma K (He.ga K "Road") "settle") := T.meth ("Road", "settle") (by decide +kernel)
theorem Txt.t_Road_end_turn (T : Txt K mg) : Meth K (He.ga K "Road") "end_turn" (He.ma K (He.ga K "Road") "end_turn") := T.meth ("Road", "end_turn") (by decide +kernel)
theorem Txt.t_Road_play (T : Txt K mg) : Meth K (He.ga K "Road") "play" (He.ma K (He.ga K "Road") "play") := T.meth ("Road", "play") (by decide +kernel)
theorem Txt.t_Searched_key_of (T : Txt K mg) : Meth K (He.ga K "Searched") "key_of" (He.ma K (He.ga K "Searched") "key_of") := T.meth ("Searched", "key_of") (by decide +kernel)
theorem Txt.t_Searched_from_here (T : Txt K mg) : Meth K (He.ga K "Searched") "from_here" (He.ma K (He.ga K "Searched") "from_here") := T.meth ("Searched", "from_here") (by decide +kernel)
theorem Txt.t_Searched_sequence (T : Txt K mg) : Meth K (He.ga K "Searched") "sequence" (He.ma K (He.ga K "Searched") "sequence") := T.meth ("Searched", "sequence") (by decide +kernel)
theorem Txt.d_in_integer (T : Txt K mg) : d_in_integer.Is K := T.defs _ (List.mem_of_getElem? (i := 0) rfl)
theorem Txt.d_in_range (T : Txt K mg) : d_in_range.Is K := T.defs _ (List.mem_of_getElem? (i := 1) rfl)
theorem Txt.d_Policy_init (T : Txt K mg) : d_Policy_init.Is K := T.defs _ (List.mem_of_getElem? (i := 2) rfl)
theorem Txt.d_Setting_init (T : Txt K mg) : d_Setting_init.Is K := T.defs _ (List.mem_of_getElem? (i := 3) rfl)
theorem Txt.d_is_write (T : Txt K mg) : d_is_write.Is K := T.defs _ (List.mem_of_getElem? (i := 4) rfl)
theorem Txt.d_check (T : Txt K mg) : d_check.Is K := T.defs _ (List.mem_of_getElem? (i := 5) rfl)
theorem Txt.d_split_turns (T : Txt K mg) : d_split_turns.Is K := T.defs _ (List.mem_of_getElem? (i := 6) rfl)
theorem Txt.d_normal_order (T : Txt K mg) : d_normal_order.Is K := T.defs _ (List.mem_of_getElem? (i := 7) rfl)
theorem Txt.d_rules_of (T : Txt K mg) : d_rules_of.Is K := T.defs _ (List.mem_of_getElem? (i := 8) rfl)
theorem Txt.d_with_full (T : Txt K mg) : d_with_full.Is K := T.defs _ (List.mem_of_getElem? (i := 9) rfl)
theorem Txt.d_with_partial (T : Txt K mg) : d_with_partial.Is K := T.defs _ (List.mem_of_getElem? (i := 10) rfl)
theorem Txt.d_after_write (T : Txt K mg) : d_after_write.Is K := T.defs _ (List.mem_of_getElem? (i := 11) rfl)
theorem Txt.d_after_clearing (T : Txt K mg) : d_after_clearing.Is K := T.defs _ (List.mem_of_getElem? (i := 12) rfl)
theorem Txt.d_after_turn (T : Txt K mg) : d_after_turn.Is K := T.defs _ (List.mem_of_getElem? (i := 13) rfl)
theorem Txt.d_first_parts (T : Txt K mg) : d_first_parts.Is K := T.defs _ (List.mem_of_getElem? (i := 14) rfl)
theorem Txt.d_first_quick (T : Txt K mg) : d_first_quick.Is K := T.defs _ (List.mem_of_getElem? (i := 15) rfl)
theorem Txt.d_with_quick (T : Txt K mg) : d_with_quick.Is K := T.defs _ (List.mem_of_getElem? (i := 16) rfl)
theorem Txt.d_clearings_of (T : Txt K mg) : d_clearings_of.Is K := T.defs _ (List.mem_of_getElem? (i := 17) rfl)
theorem Txt.d_turn_ends (T : Txt K mg) : d_turn_ends.Is K := T.defs _ (List.mem_of_getElem? (i := 18) rfl)
theorem Txt.d_best_orders (T : Txt K mg) : d_best_orders.Is K := T.defs _ (List.mem_of_getElem? (i := 19) rfl)
theorem Txt.d_least (T : Txt K mg) : d_least.Is K := T.defs _ (List.mem_of_getElem? (i := 20) rfl)
theorem Txt.d_most (T : Txt K mg) : d_most.Is K := T.defs _ (List.mem_of_getElem? (i := 21) rfl)
theorem Txt.d_Side_init (T : Txt K mg) : d_Side_init.Is K := T.defs _ (List.mem_of_getElem? (i := 22) rfl)
theorem Txt.d_Side_packed (T : Txt K mg) : d_Side_packed.Is K := T.defs _ (List.mem_of_getElem? (i := 23) rfl)
theorem Txt.d_Side_permits (T : Txt K mg) : d_Side_permits.Is K := T.defs _ (List.mem_of_getElem? (i := 24) rfl)
theorem Txt.d_Draft_init (T : Txt K mg) : d_Draft_init.Is K := T.defs _ (List.mem_of_getElem? (i := 25) rfl)
theorem Txt.d_Draft_packed (T : Txt K mg) : d_Draft_packed.Is K := T.defs _ (List.mem_of_getElem? (i := 26) rfl)
theorem Txt.d_Draft_send (T : Txt K mg) : d_Draft_send.Is K := T.defs _ (List.mem_of_getElem? (i := 27) rfl)
theorem Txt.d_Draft_write (T : Txt K mg) : d_Draft_write.Is K := T.defs _ (List.mem_of_getElem? (i := 28) rfl)
theorem Txt.d_Draft_arrive (T : Txt K mg) : d_Draft_arrive.Is K := T.defs _ (List.mem_of_getElem? (i := 29) rfl)
theorem Txt.d_Draft_fire (T : Txt K mg) : d_Draft_fire.Is K := T.defs _ (List.mem_of_getElem? (i := 30) rfl)
theorem Txt.d_Rules_init (T : Txt K mg) : d_Rules_init.Is K := T.defs _ (List.mem_of_getElem? (i := 31) rfl)
theorem Txt.d_Rules_first (T : Txt K mg) : d_Rules_first.Is K := T.defs _ (List.mem_of_getElem? (i := 32) rfl)
theorem Txt.d_Rules_heard_all (T : Txt K mg) : d_Rules_heard_all.Is K := T.defs _ (List.mem_of_getElem? (i := 33) rfl)
theorem Txt.d_Rules_finished (T : Txt K mg) : d_Rules_finished.Is K := T.defs _ (List.mem_of_getElem? (i := 34) rfl)
theorem Txt.d_Rules_possible (T : Txt K mg) : d_Rules_possible.Is K := T.defs _ (List.mem_of_getElem? (i := 35) rfl)
theorem Txt.d_Rules_after (T : Txt K mg) : d_Rules_after.Is K := T.defs _ (List.mem_of_getElem? (i := 36) rfl)
theorem Txt.d_Road_init (T : Txt K mg) : d_Road_init.Is K := T.defs _ (List.mem_of_getElem? (i := 37) rfl)
theorem Txt.d_Road_possible (T : Txt K mg) : d_Road_possible.Is K := T.defs _ (List.mem_of_getElem? (i := 38) rfl)
theorem Txt.d_Road_do (T : Txt K mg) : d_Road_do.Is K := T.defs _ (List.mem_of_getElem? (i := 39) rfl)
theorem Txt.d_Road_stall_count (T : Txt K mg) : d_Road_stall_count.Is K := T.defs _ (List.mem_of_getElem? (i := 40) rfl)
theorem Txt.d_Road_is_over (T : Txt K mg) : d_Road_is_over.Is K := T.defs _ (List.mem_of_getElem? (i := 41) rfl)
theorem Txt.d_Road_way_from (T : Txt K mg) : d_Road_way_from.Is K := T.defs _ (List.mem_of_getElem? (i := 42) rfl)
theorem Txt.d_Road_clearing (T : Txt K mg) : d_Road_clearing.Is K := T.defs _ (List.mem_of_getElem? (i := 43) rfl)
theorem Txt.d_Road_settle (T : Txt K mg) : d_Road_settle.Is K := T.defs _ (List.mem_of_getElem? (i := 44) rfl)
theorem Txt.d_Road_end_turn (T : Txt K mg) : d_Road_end_turn.Is K := T.defs _ (List.mem_of_getElem? (i := 45) rfl)
theorem Txt.d_Road_play (T : Txt K mg) : d_Road_play.Is K := T.defs _ (List.mem_of_getElem? (i := 46) rfl)
theorem Txt.d_Searched_init (T : Txt K mg) : d_Searched_init.Is K := T.defs _ (List.mem_of_getElem? (i := 47) rfl)
theorem Txt.d_Searched_key_of (T : Txt K mg) : d_Searched_key_of.Is K := T.defs _ (List.mem_of_getElem? (i := 48) rfl)
theorem Txt.d_Searched_from_here (T : Txt K mg) : d_Searched_from_here.Is K := T.defs _ (List.mem_of_getElem? (i := 49) rfl)
theorem Txt.d_Searched_sequence (T : Txt K mg) : d_Searched_sequence.Is K := T.defs _ (List.mem_of_getElem? (i := 50) rfl)
theorem Txt.d_search (T : Txt K mg) : d_search.Is K := T.defs _ (List.mem_of_getElem? (i := 51) rfl)
theorem Txt.d_law_bag (T : Txt K mg) : d_law_bag.Is K := T.defs _ (List.mem_of_getElem? (i := 52) rfl)
theorem Txt.d_law_take (T : Txt K mg) : d_law_take.Is K := T.defs _ (List.mem_of_getElem? (i := 53) rfl)
theorem Txt.d_law_policy (T : Txt K mg) : d_law_policy.Is K := T.defs _ (List.mem_of_getElem? (i := 54) rfl)
theorem Txt.d_law_setting (T : Txt K mg) : d_law_setting.Is K := T.defs _ (List.mem_of_getElem? (i := 55) rfl)
theorem Txt.d_law_words (T : Txt K mg) : d_law_words.Is K := T.defs _ (List.mem_of_getElem? (i := 56) rfl)
theorem Txt.d_law_lists (T : Txt K mg) : d_law_lists.Is K := T.defs _ (List.mem_of_getElem? (i := 57) rfl)
theorem Txt.d_law_right (T : Txt K mg) : d_law_right.Is K := T.defs _ (List.mem_of_getElem? (i := 58) rfl)
theorem Txt.d_law (T : Txt K mg) : d_law.Is K := T.defs _ (List.mem_of_getElem? (i := 59) rfl)
end
end Lw

/-! A def's promise with all that a call of it wants; the calls by it. -/
namespace Lw
open PySem PySem.Spec PyProof.Rows L2
section
variable (P : Program) (w : World) (K : PySem.W.Frag) (mg : Str → Option Value) (base : Heap)
/-- the def at f keeps sp at level k; dvs fill up what a call does not give -/
def Con (k : Nat) (f : Addr) (ps : List Str) (dvs : List V) (sp : Sp) : Prop :=
  ∃ (fd : FuncData) (ds : List Value), FnOk P w K mg base CX0 k f fd ps sp ∧ Vals dvs ds ∧ Binds K fd ps ds ∧ PySem.W.keepIn K (.ref f) = true
end
section
variable {P : Program} {w : World} {K : PySem.W.Frag} {mg : Str → Option Value} {base : Heap} {k : Nat} {f : Addr} {ps N : List Str} {dvs : List V} {sp : Sp}
theorem Con.mono {j : Nat} (C : Con P w K mg base j f ps dvs sp) (h : j ≤ k) : Con P w K mg base k f ps dvs sp := by
  obtain ⟨fd, ds, F, r⟩ := C
  exact ⟨fd, ds, F.mono h, r⟩
/-- the body's question, for a def at an address -/
abbrev BodyQ (P : Program) (w : World) (K : PySem.W.Frag) (mg : Str → Option Value) (base : Heap) (k : Nat) (N : List Str) (d : DefA) (sp : Sp) : Prop :=
  ∀ (cdv : Value) (A : Around) (outer : List Env) (s : Shared) (H : Hp) (vs : List V) (Q : VK) (E : XK), Room k (A.deeper (envOfC d.qual (defScope d.st) s.heap.objs.size (d.adr K) cdv)) → sp vs H Q E →
    ∃ t, PSs (cxOf CX0 P w K mg base N d.qual (defScope d.st) (d.adr K) cdv A outer s H E).nox (defBody d.st) t ∧ t { nx := fun _ H' => Q .non H', rt := Q } (start N vs) H
theorem fnok_of {d : DefA} {fd : FuncData} (F : FunD K d.name d.qual (defArgs d.st) (defBody d.st) (defScope d.st) (d.dfl.map (He.Dv.v K)) (d.kwd.map fun q => (q.1, q.2.v K)) (d.adr K) fd) (S : FnScope N ps (defScope d.st))
    (len : ∀ vs H Q E, sp vs H Q E → vs.length = ps.length) (b : BodyQ P w K mg base k N d sp) : FnOk P w K mg base CX0 (k + 1) (d.adr K) fd ps sp := by
  refine F.ok S len fun cdv A outer s H vs Q E hr h => ?_
  obtain ⟨t, h1, h2⟩ := b cdv A outer s H vs Q E hr h
  exact ⟨t, h1.nox, h2⟩
/-- a def without defaults -/
theorem con_of {d : DefA} (D : d.Is K) (e1 : d.dfl = []) (e2 : d.kwd = []) (S : FnScope N ps (defScope d.st))
    (hb : ∀ (kV doc pm : Value) (an : Option Addr) (cdv ct : Value) (us : List Value), us.length = ps.length → bindArgs (PySem.W.fnOf d.name d.qual (defArgs d.st) (defBody d.st) (defScope d.st) .none kV doc pm an cdv ct) ⟨us, []⟩ = pure (ps.zip us))
    (len : ∀ vs H Q E, sp vs H Q E → vs.length = ps.length) (b : BodyQ P w K mg base k N d sp) : Con P w K mg base (k + 1) (d.adr K) ps [] sp := by
  obtain ⟨fd, F⟩ := D
  have F' := F
  rw [e1] at F'
  exact ⟨fd, [], fnok_of F S len b, .nil, F'.bindsN hb, F.kp⟩
end
section
variable {X : Cx} {k : Nat} {f C : Addr} {ps : List Str} {dvs : List V} {sp : Sp} {x m : Str} {p pos apos : Pos} {e o : Expr} {es : List Expr} {ta : TE} {t : TA}
theorem call_c (G : Con X.prog X.w X.K X.mg X.base k f ps dvs sp) (hr : Room k X.A) (hm : X.mg x = some (.ref f)) (ha : PA X (e :: es) t) (hg : Gl X x := by rfl) (hdb : (x == ("__debug__" : Str)) = false := by decide)
    (he : starEach (e :: es) X.env = (false, eval e X.env) :: starEach es X.env := by rfl) (hpl : (backTo pos (starEach es X.env)).any (·.1) = false := by rfl) : PE X (.Call (.Name x p) (e :: es) [] pos) (tCall sp dvs E0 t) := by
  obtain ⟨fd, ds, F, r, b, kp⟩ := G
  exact pe_call F hr hg hm kp b r pass0 ha hdb he hpl
theorem meth_c {pl : Sem Bool} (ho : PE X o ta) (c : Cls X.K C) (hm : Meth X.K C m f) (G : Con X.prog X.w X.K X.mg X.base k f ps dvs sp) (hr : Room k X.A) (ha : PA X (e :: es) t)
    (hst : starEach (e :: es) X.env = (false, eval e X.env) :: starEach es X.env := by rfl) (hpl : (backTo pos (starEach es X.env)).any (·.1) = false := by rfl)
    (ht : eval (.Call (.Attribute o m apos) (e :: es) [] pos) X.env = (do
      let ov ← eval o X.env
      standAt apos.atName
      let (f, first) ← holding [ov] (getMethod ov m pl)
      callWith pos f first (backTo pos (starEach (e :: es) X.env)) (backToKw pos (keywordEach [] X.env))) := by rfl) : PE X (.Call (.Attribute o m apos) (e :: es) [] pos) (tMeth C m sp dvs E0 ta t) := by
  obtain ⟨fd, ds, F, r, b, kp⟩ := G
  exact pe_meth ho c hm F hr b r pass0 ha hst hpl ht
theorem meth_c0 {pl : Sem Bool} (ho : PE X o ta) (c : Cls X.K C) (hm : Meth X.K C m f) (G : Con X.prog X.w X.K X.mg X.base k f ps dvs sp) (hr : Room k X.A)
    (ht : eval (.Call (.Attribute o m apos) [] [] pos) X.env = (do
      let ov ← eval o X.env
      standAt apos.atName
      let (f, first) ← holding [ov] (getMethod ov m pl)
      callWith pos f first (backTo pos (starEach [] X.env)) (backToKw pos (keywordEach [] X.env))) := by rfl) : PE X (.Call (.Attribute o m apos) [] [] pos) (tMeth C m sp dvs E0 ta tNil) := by
  obtain ⟨fd, ds, F, r, b, kp⟩ := G
  exact pe_meth0 ho c hm F hr b r pass0 ht
theorem make_c (M : Mk X.K C f) (G : Con X.prog X.w X.K X.mg X.base k f ps dvs sp) (hr : Room (k + 1) X.A) (hm : X.mg x = some (.ref C)) (ha : PA X (e :: es) t) (hg : Gl X x := by rfl) (hdb : (x == ("__debug__" : Str)) = false := by decide)
    (he : starEach (e :: es) X.env = (false, eval e X.env) :: starEach es X.env := by rfl) (hpl : (backTo pos (starEach es X.env)).any (·.1) = false := by rfl) : PE X (.Call (.Name x p) (e :: es) [] pos) (tMake C sp dvs E0 t) := by
  obtain ⟨fd, ds, F, r, b, kp⟩ := G
  exact pe_make M F hr hg hm b r pass0 ha hdb he hpl
theorem make_c0 (M : Mk X.K C f) (G : Con X.prog X.w X.K X.mg X.base k f ps dvs sp) (hr : Room (k + 1) X.A) (hm : X.mg x = some (.ref C)) (hg : Gl X x := by rfl) (hdb : (x == ("__debug__" : Str)) = false := by decide) :
    PE X (.Call (.Name x p) [] [] pos) (tMake C sp dvs E0 tNil) := by
  obtain ⟨fd, ds, F, r, b, kp⟩ := G
  exact pe_make0 M F hr hg hm b r pass0 hdb
theorem prop_c {q : Addr} (ho : PE X o ta) (c : Cls X.K C) (hp : PropOf X.K C m q f) (G : Con X.prog X.w X.K X.mg X.base k f ps dvs sp) (hr : Room (k + 1) X.A) (hab : attributeBase o m X.env (eval o X.env) = eval o X.env := by rfl) : PE X (.Attribute o m pos) (tProp C sp dvs E0 ta) := by
  obtain ⟨fd, ds, F, r, b, kp⟩ := G
  exact pe_prop ho c hp F hr b r (fun _ _ _ _ _ _ _ z => z.elim) hab
/-- a built-in's call by its name -/
theorem bi {id : String} {r : List V → Hp → VK → Prop} (hc : CallR X (.builtin id) r) (hm : X.mg x = none) (ha : PA X (e :: es) t) (hv : bootBuiltins x = some (.builtin id) := by decide +kernel) (hg : Gl X x := by rfl)
    (hn : x ≠ "__name__" := by decide) (hdb : (x == ("__debug__" : Str)) = false := by decide) (he : starEach (e :: es) X.env = (false, eval e X.env) :: starEach es X.env := by rfl) (hpl : (backTo pos (starEach es X.env)).any (·.1) = false := by rfl) :
    PE X (.Call (.Name x p) (e :: es) [] pos) (tCB r t) := pe_callB hc hg hm hv ha hn hdb he hpl
theorem ty {Ty : String} {r : List V → Hp → VK → Prop} (hc : CallR X (.type Ty) r) (hm : X.mg x = none) (ha : PA X (e :: es) t) (hv : bootBuiltins x = some (.type Ty) := by decide +kernel) (hg : Gl X x := by rfl)
    (hn : x ≠ "__name__" := by decide) (hdb : (x == ("__debug__" : Str)) = false := by decide) (he : starEach (e :: es) X.env = (false, eval e X.env) :: starEach es X.env := by rfl) (hpl : (backTo pos (starEach es X.env)).any (·.1) = false := by rfl) :
    PE X (.Call (.Name x p) (e :: es) [] pos) (tCB r t) := pe_callTy hc hg hm hv ha hn hdb he hpl
end
section
variable {X : Cx} {x : Str} {e : Expr} {te : TE} {pos pos' : Pos}
/-- a name's store, by its slot -/
theorem ss (i : Nat) (nd : X.N.Nodup) (he : PE X e te) (hi : X.N[i]? = some x := by rfl) (hx : Loc X.env.scope x := by first | exact Or.inl rfl | exact Or.inr rfl) (hs : swapsWith e (some (.Name x pos')) pos.line X.env = pure false := by rfl)
    (hf : X.fn x = true ∨ X.env.scope.names.lookup x = some .local := by first | exact .inl rfl | exact .inr rfl) : PS X (.Assign [.Name x pos'] e pos) (tAsg te (gName i)) := ps_set (i := i) nd hi hx he hs hf
/-- a name as a target -/
theorem gn (i : Nat) (nd : X.N.Nodup) (hi : X.N[i]? = some x := by rfl) (hx : Loc X.env.scope x := by first | exact Or.inl rfl | exact Or.inr rfl)
    (hf : X.fn x = true ∨ X.env.scope.names.lookup x = some .local := by first | exact .inl rfl | exact .inr rfl) : PG X (.Name x pos) (gName i) := pg_name (i := i) nd hi hx hf
/-- a type's name as a value -/
theorem tyv {n : String} (hm : X.mg x = none) (hg : Gl X x := by rfl) (hv : bootBuiltins x = some (.type n) := by decide +kernel) (hn : x ≠ "__name__" := by decide) (hd : (x == ("__debug__" : Str)) = false := by decide) : PE X (.Name x pos) (tC (.ty n)) :=
  pe_bltn hg hm hv rfl hn hd
end
end Lw

/-! Each class's attributes as one list. Printed by gen_f.py. -/
namespace Lw
open PySem PySem.Spec PyProof.Rows L2
def f_Policy (x0 : Str) (x1 : Int) (x2 : Int) : List (Str × V) := [("hold", .str x0), ("every", .int x1), ("quick", .int x2)]
section
variable {x0 : Str} {x1 : Int} {x2 : Int}
theorem lk_Policy_hold : (f_Policy x0 x1 x2).lookup ("hold" : Str) = some (.str x0) := by kernel_rfl
theorem pf_Policy_hold {y : Str} : putF "hold" (.str y) (f_Policy x0 x1 x2) = f_Policy y x1 x2 := by kernel_rfl
theorem lk_Policy_every : (f_Policy x0 x1 x2).lookup ("every" : Str) = some (.int x1) := by kernel_rfl
theorem pf_Policy_every {y : Int} : putF "every" (.int y) (f_Policy x0 x1 x2) = f_Policy x0 y x2 := by kernel_rfl
theorem lk_Policy_quick : (f_Policy x0 x1 x2).lookup ("quick" : Str) = some (.int x2) := by kernel_rfl
theorem pf_Policy_quick {y : Int} : putF "quick" (.int y) (f_Policy x0 x1 x2) = f_Policy x0 x1 y := by kernel_rfl
theorem ln_Policy : (f_Policy x0 x1 x2).length < 1000 := by show 3 < 1000; decide
theorem mk_Policy : putF "quick" (.int x2) (putF "every" (.int x1) (putF "hold" (.str x0) ([]))) = f_Policy x0 x1 x2 := by kernel_rfl
end
def f_Setting (x0 : Int) (x1 : Addr) : List (Str × V) := [("size", .int x0), ("policies", .ref x1)]
section
variable {x0 : Int} {x1 : Addr}
theorem lk_Setting_size : (f_Setting x0 x1).lookup ("size" : Str) = some (.int x0) := by kernel_rfl
theorem pf_Setting_size {y : Int} : putF "size" (.int y) (f_Setting x0 x1) = f_Setting y x1 := by kernel_rfl
theorem lk_Setting_policies : (f_Setting x0 x1).lookup ("policies" : Str) = some (.ref x1) := by kernel_rfl
theorem pf_Setting_policies {y : Addr} : putF "policies" (.ref y) (f_Setting x0 x1) = f_Setting x0 y := by kernel_rfl
theorem ln_Setting : (f_Setting x0 x1).length < 1000 := by show 2 < 1000; decide
theorem mk_Setting : putF "policies" (.ref x1) (putF "size" (.int x0) ([])) = f_Setting x0 x1 := by kernel_rfl
end
def f_Side (x0 : Int) (x1 : Bool) (x2 : Int) (x3 : Int) (x4 : Int) (x5 : Int) (x6 : Int) (x7 : Int) : List (Str × V) := [("waiting", .int x0), ("corked", .bl x1), ("out", .int x2), ("covered", .int x3), ("heard", .int x4), ("fulls", .int x5), ("arrived", .int x6), ("mark", .int x7)]
section
variable {x0 : Int} {x1 : Bool} {x2 : Int} {x3 : Int} {x4 : Int} {x5 : Int} {x6 : Int} {x7 : Int}
theorem lk_Side_waiting : (f_Side x0 x1 x2 x3 x4 x5 x6 x7).lookup ("waiting" : Str) = some (.int x0) := by kernel_rfl
theorem pf_Side_waiting {y : Int} : putF "waiting" (.int y) (f_Side x0 x1 x2 x3 x4 x5 x6 x7) = f_Side y x1 x2 x3 x4 x5 x6 x7 := by kernel_rfl
theorem lk_Side_corked : (f_Side x0 x1 x2 x3 x4 x5 x6 x7).lookup ("corked" : Str) = some (.bl x1) := by kernel_rfl
theorem pf_Side_corked {y : Bool} : putF "corked" (.bl y) (f_Side x0 x1 x2 x3 x4 x5 x6 x7) = f_Side x0 y x2 x3 x4 x5 x6 x7 := by kernel_rfl
theorem lk_Side_out : (f_Side x0 x1 x2 x3 x4 x5 x6 x7).lookup ("out" : Str) = some (.int x2) := by kernel_rfl
theorem pf_Side_out {y : Int} : putF "out" (.int y) (f_Side x0 x1 x2 x3 x4 x5 x6 x7) = f_Side x0 x1 y x3 x4 x5 x6 x7 := by kernel_rfl
theorem lk_Side_covered : (f_Side x0 x1 x2 x3 x4 x5 x6 x7).lookup ("covered" : Str) = some (.int x3) := by kernel_rfl
theorem pf_Side_covered {y : Int} : putF "covered" (.int y) (f_Side x0 x1 x2 x3 x4 x5 x6 x7) = f_Side x0 x1 x2 y x4 x5 x6 x7 := by kernel_rfl
theorem lk_Side_heard : (f_Side x0 x1 x2 x3 x4 x5 x6 x7).lookup ("heard" : Str) = some (.int x4) := by kernel_rfl
theorem pf_Side_heard {y : Int} : putF "heard" (.int y) (f_Side x0 x1 x2 x3 x4 x5 x6 x7) = f_Side x0 x1 x2 x3 y x5 x6 x7 := by kernel_rfl
theorem lk_Side_fulls : (f_Side x0 x1 x2 x3 x4 x5 x6 x7).lookup ("fulls" : Str) = some (.int x5) := by kernel_rfl
theorem pf_Side_fulls {y : Int} : putF "fulls" (.int y) (f_Side x0 x1 x2 x3 x4 x5 x6 x7) = f_Side x0 x1 x2 x3 x4 y x6 x7 := by kernel_rfl
theorem lk_Side_arrived : (f_Side x0 x1 x2 x3 x4 x5 x6 x7).lookup ("arrived" : Str) = some (.int x6) := by kernel_rfl
theorem pf_Side_arrived {y : Int} : putF "arrived" (.int y) (f_Side x0 x1 x2 x3 x4 x5 x6 x7) = f_Side x0 x1 x2 x3 x4 x5 y x7 := by kernel_rfl
theorem lk_Side_mark : (f_Side x0 x1 x2 x3 x4 x5 x6 x7).lookup ("mark" : Str) = some (.int x7) := by kernel_rfl
theorem pf_Side_mark {y : Int} : putF "mark" (.int y) (f_Side x0 x1 x2 x3 x4 x5 x6 x7) = f_Side x0 x1 x2 x3 x4 x5 x6 y := by kernel_rfl
theorem ln_Side : (f_Side x0 x1 x2 x3 x4 x5 x6 x7).length < 1000 := by show 8 < 1000; decide
theorem no_Side_packed : (f_Side x0 x1 x2 x3 x4 x5 x6 x7).lookup ("packed" : Str) = none := by kernel_rfl
theorem no_Side_permits : (f_Side x0 x1 x2 x3 x4 x5 x6 x7).lookup ("permits" : Str) = none := by kernel_rfl
theorem mk_Side : putF "mark" (.int x7) (putF "arrived" (.int x6) (putF "fulls" (.int x5) (putF "heard" (.int x4) (putF "covered" (.int x3) (putF "out" (.int x2) (putF "corked" (.bl x1) (putF "waiting" (.int x0) ([])))))))) = f_Side x0 x1 x2 x3 x4 x5 x6 x7 := by kernel_rfl
end
def f_Draft (x0 : Addr) (x1 : Int) (x2 : Int) (x3 : Addr) (x4 : Addr) : List (Str × V) := [("setting", .ref x0), ("made", .int x1), ("stalls", .int x2), ("sides", .ref x3), ("ways", .ref x4)]
section
variable {x0 : Addr} {x1 : Int} {x2 : Int} {x3 : Addr} {x4 : Addr}
theorem lk_Draft_setting : (f_Draft x0 x1 x2 x3 x4).lookup ("setting" : Str) = some (.ref x0) := by kernel_rfl
theorem pf_Draft_setting {y : Addr} : putF "setting" (.ref y) (f_Draft x0 x1 x2 x3 x4) = f_Draft y x1 x2 x3 x4 := by kernel_rfl
theorem lk_Draft_made : (f_Draft x0 x1 x2 x3 x4).lookup ("made" : Str) = some (.int x1) := by kernel_rfl
theorem pf_Draft_made {y : Int} : putF "made" (.int y) (f_Draft x0 x1 x2 x3 x4) = f_Draft x0 y x2 x3 x4 := by kernel_rfl
theorem lk_Draft_stalls : (f_Draft x0 x1 x2 x3 x4).lookup ("stalls" : Str) = some (.int x2) := by kernel_rfl
theorem pf_Draft_stalls {y : Int} : putF "stalls" (.int y) (f_Draft x0 x1 x2 x3 x4) = f_Draft x0 x1 y x3 x4 := by kernel_rfl
theorem lk_Draft_sides : (f_Draft x0 x1 x2 x3 x4).lookup ("sides" : Str) = some (.ref x3) := by kernel_rfl
theorem pf_Draft_sides {y : Addr} : putF "sides" (.ref y) (f_Draft x0 x1 x2 x3 x4) = f_Draft x0 x1 x2 y x4 := by kernel_rfl
theorem lk_Draft_ways : (f_Draft x0 x1 x2 x3 x4).lookup ("ways" : Str) = some (.ref x4) := by kernel_rfl
theorem pf_Draft_ways {y : Addr} : putF "ways" (.ref y) (f_Draft x0 x1 x2 x3 x4) = f_Draft x0 x1 x2 x3 y := by kernel_rfl
theorem ln_Draft : (f_Draft x0 x1 x2 x3 x4).length < 1000 := by show 5 < 1000; decide
theorem no_Draft_packed : (f_Draft x0 x1 x2 x3 x4).lookup ("packed" : Str) = none := by kernel_rfl
theorem no_Draft_send : (f_Draft x0 x1 x2 x3 x4).lookup ("send" : Str) = none := by kernel_rfl
theorem no_Draft_write : (f_Draft x0 x1 x2 x3 x4).lookup ("write" : Str) = none := by kernel_rfl
theorem no_Draft_arrive : (f_Draft x0 x1 x2 x3 x4).lookup ("arrive" : Str) = none := by kernel_rfl
theorem no_Draft_fire : (f_Draft x0 x1 x2 x3 x4).lookup ("fire" : Str) = none := by kernel_rfl
theorem mk_Draft : putF "ways" (.ref x4) (putF "sides" (.ref x3) (putF "stalls" (.int x2) (putF "made" (.int x1) (putF "setting" (.ref x0) ([]))))) = f_Draft x0 x1 x2 x3 x4 := by kernel_rfl
end
def f_Rules (x0 : Addr) (x1 : Addr) (x2 : Addr) : List (Str × V) := [("setting", .ref x0), ("writes", .ref x1), ("given", .ref x2)]
section
variable {x0 : Addr} {x1 : Addr} {x2 : Addr}
theorem lk_Rules_setting : (f_Rules x0 x1 x2).lookup ("setting" : Str) = some (.ref x0) := by kernel_rfl
theorem pf_Rules_setting {y : Addr} : putF "setting" (.ref y) (f_Rules x0 x1 x2) = f_Rules y x1 x2 := by kernel_rfl
theorem lk_Rules_writes : (f_Rules x0 x1 x2).lookup ("writes" : Str) = some (.ref x1) := by kernel_rfl
theorem pf_Rules_writes {y : Addr} : putF "writes" (.ref y) (f_Rules x0 x1 x2) = f_Rules x0 y x2 := by kernel_rfl
theorem lk_Rules_given : (f_Rules x0 x1 x2).lookup ("given" : Str) = some (.ref x2) := by kernel_rfl
theorem pf_Rules_given {y : Addr} : putF "given" (.ref y) (f_Rules x0 x1 x2) = f_Rules x0 x1 y := by kernel_rfl
theorem ln_Rules : (f_Rules x0 x1 x2).length < 1000 := by show 3 < 1000; decide
theorem no_Rules_first : (f_Rules x0 x1 x2).lookup ("first" : Str) = none := by kernel_rfl
theorem no_Rules_heard_all : (f_Rules x0 x1 x2).lookup ("heard_all" : Str) = none := by kernel_rfl
theorem no_Rules_finished : (f_Rules x0 x1 x2).lookup ("finished" : Str) = none := by kernel_rfl
theorem no_Rules_possible : (f_Rules x0 x1 x2).lookup ("possible" : Str) = none := by kernel_rfl
theorem no_Rules_after : (f_Rules x0 x1 x2).lookup ("after" : Str) = none := by kernel_rfl
theorem mk_Rules : putF "given" (.ref x2) (putF "writes" (.ref x1) (putF "setting" (.ref x0) ([]))) = f_Rules x0 x1 x2 := by kernel_rfl
end
def f_Road (x0 : Addr) (x1 : Addr) (x2 : Addr) (x3 : Int) : List (Str × V) := [("rules", .ref x0), ("scenes", .ref x1), ("deeds", .ref x2), ("floor", .int x3)]
section
variable {x0 : Addr} {x1 : Addr} {x2 : Addr} {x3 : Int}
theorem lk_Road_rules : (f_Road x0 x1 x2 x3).lookup ("rules" : Str) = some (.ref x0) := by kernel_rfl
theorem pf_Road_rules {y : Addr} : putF "rules" (.ref y) (f_Road x0 x1 x2 x3) = f_Road y x1 x2 x3 := by kernel_rfl
theorem lk_Road_scenes : (f_Road x0 x1 x2 x3).lookup ("scenes" : Str) = some (.ref x1) := by kernel_rfl
theorem pf_Road_scenes {y : Addr} : putF "scenes" (.ref y) (f_Road x0 x1 x2 x3) = f_Road x0 y x2 x3 := by kernel_rfl
theorem lk_Road_deeds : (f_Road x0 x1 x2 x3).lookup ("deeds" : Str) = some (.ref x2) := by kernel_rfl
theorem pf_Road_deeds {y : Addr} : putF "deeds" (.ref y) (f_Road x0 x1 x2 x3) = f_Road x0 x1 y x3 := by kernel_rfl
theorem lk_Road_floor : (f_Road x0 x1 x2 x3).lookup ("floor" : Str) = some (.int x3) := by kernel_rfl
theorem pf_Road_floor {y : Int} : putF "floor" (.int y) (f_Road x0 x1 x2 x3) = f_Road x0 x1 x2 y := by kernel_rfl
theorem ln_Road : (f_Road x0 x1 x2 x3).length < 1000 := by show 4 < 1000; decide
theorem no_Road_possible : (f_Road x0 x1 x2 x3).lookup ("possible" : Str) = none := by kernel_rfl
theorem no_Road_do : (f_Road x0 x1 x2 x3).lookup ("do" : Str) = none := by kernel_rfl
theorem no_Road_way_from : (f_Road x0 x1 x2 x3).lookup ("way_from" : Str) = none := by kernel_rfl
theorem no_Road_clearing : (f_Road x0 x1 x2 x3).lookup ("clearing" : Str) = none := by kernel_rfl
theorem no_Road_settle : (f_Road x0 x1 x2 x3).lookup ("settle" : Str) = none := by kernel_rfl
theorem no_Road_end_turn : (f_Road x0 x1 x2 x3).lookup ("end_turn" : Str) = none := by kernel_rfl
theorem no_Road_play : (f_Road x0 x1 x2 x3).lookup ("play" : Str) = none := by kernel_rfl
theorem mk_Road : putF "floor" (.int x3) (putF "deeds" (.ref x2) (putF "scenes" (.ref x1) (putF "rules" (.ref x0) ([])))) = f_Road x0 x1 x2 x3 := by kernel_rfl
end
def f_Searched (x0 : Addr) (x1 : Addr) : List (Str × V) := [("rules", .ref x0), ("known", .ref x1)]
section
variable {x0 : Addr} {x1 : Addr}
theorem lk_Searched_rules : (f_Searched x0 x1).lookup ("rules" : Str) = some (.ref x0) := by kernel_rfl
theorem pf_Searched_rules {y : Addr} : putF "rules" (.ref y) (f_Searched x0 x1) = f_Searched y x1 := by kernel_rfl
theorem lk_Searched_known : (f_Searched x0 x1).lookup ("known" : Str) = some (.ref x1) := by kernel_rfl
theorem pf_Searched_known {y : Addr} : putF "known" (.ref y) (f_Searched x0 x1) = f_Searched x0 y := by kernel_rfl
theorem ln_Searched : (f_Searched x0 x1).length < 1000 := by show 2 < 1000; decide
theorem no_Searched_key_of : (f_Searched x0 x1).lookup ("key_of" : Str) = none := by kernel_rfl
theorem no_Searched_from_here : (f_Searched x0 x1).lookup ("from_here" : Str) = none := by kernel_rfl
theorem no_Searched_sequence : (f_Searched x0 x1).lookup ("sequence" : Str) = none := by kernel_rfl
theorem mk_Searched : putF "known" (.ref x1) (putF "rules" (.ref x0) ([])) = f_Searched x0 x1 := by kernel_rfl
end
end Lw

/-! How the plain data lie in the heap. -/
namespace Lw
open PySem PySem.Spec PyProof.Rows L2
open LW (Hold Mode Pol Cfg Write Side Scene Parts Way Rule)
def hV : Hold → Str
  | .off => "off"
  | .part => "partial"
  | .all => "all"
def mV : Mode → Str
  | .plain => "plain"
  | .push => "push"
  | .more => "more"
def eV : Bool → Int
  | false => 0
  | true => 1
theorem eV_not (e : Bool) : eV (!e) = 1 - eV e := by cases e <;> rfl
theorem eV_inj {a b : Bool} (h : eV a = eV b) : a = b := by cases a <;> cases b <;> first | rfl | cases h
/-- all that H holds stands in H', and H' is open where new things are laid -/
theorem same_new {H0 H : Hp} {p : Addr} {o : HO} (s : Same H0 H) (n : H p = none) : Same H0 (upd H p o) := fun b q e => by
  rw [upd_ne (ne_of_none (s b q e) n)]
  exact s b q e
/-- .. behind a store to what is younger than H0 -/
theorem same_put {H0 H : Hp} {p : Addr} {o : HO} (s : Same H0 H) (n : H0 p = none) : Same H0 (upd H p o) := fun b q e => by
  rw [upd_ne (ne_of_none e n)]
  exact s b q e
theorem upd_new {H : Hp} {p b : Addr} {o q : HO} (n : H p = none) (e : H b = some q) : upd H p o b = some q := by
  rw [upd_ne (ne_of_none e n)]
  exact e
theorem none_upd {H : Hp} {p b : Addr} {o : HO} (h : upd H p o b = none) : H b = none ∧ b ≠ p := by
  by_cases e : b = p
  · subst e
    rw [upd_same] at h
    cases h
  · rw [upd_ne e] at h
    exact ⟨h, e⟩
theorem _root_.L2.Same.tup {H H' : Hp} (s : Same H H') {K : PySem.W.Frag} {a : Addr} {xs : List V} (h : SqT K H a xs) : SqT K H' a xs := by
  rcases h with (h | ⟨o, h⟩) | h
  · exact .inl (.inl (s _ _ h))
  · exact .inl (.inr ⟨o, s _ _ h⟩)
  · exact .inr h
section
variable (K : PySem.W.Frag) (H : Hp)
def PolAt (a : Addr) (p : Pol) : Prop := ∃ dx, H a = some (.ins (He.ga K "Policy") dx (f_Policy (hV p.hold) p.every p.quick))
def SetAt (a : Addr) (c : Cfg) : Prop := ∃ dx t p0 p1, H a = some (.ins (He.ga K "Setting") dx (f_Setting c.size t)) ∧ H t = some (.tup [.ref p0, .ref p1]) ∧ PolAt K H p0 c.p0 ∧ PolAt K H p1 c.p1
end
section
variable {K : PySem.W.Frag} {H H' : Hp}
theorem PolAt.mono {a : Addr} {p : Pol} (h : PolAt K H a p) (s : Same H H') : PolAt K H' a p := by
  obtain ⟨dx, h⟩ := h
  exact ⟨dx, s _ _ h⟩
theorem SetAt.mono {a : Addr} {c : Cfg} (h : SetAt K H a c) (s : Same H H') : SetAt K H' a c := by
  obtain ⟨dx, t, p0, p1, h1, h2, h3, h4⟩ := h
  exact ⟨dx, t, p0, p1, s _ _ h1, s _ _ h2, h3.mono s, h4.mono s⟩
/-- the policy of an endpoint -/
theorem SetAt.pol {a : Addr} {c : Cfg} (h : SetAt K H a c) : ∃ (dx t : Addr) (q : Bool → Addr), H a = some (.ins (He.ga K "Setting") dx (f_Setting c.size t)) ∧ ∀ e : Bool, ∃ ps, H t = some (.tup ps) ∧ atI ps (eV e) = some (.ref (q e)) ∧ PolAt K H (q e) (c.pol e) := by
  obtain ⟨dx, t, p0, p1, h1, h2, h3, h4⟩ := h
  refine ⟨dx, t, fun e => if e = true then p1 else p0, h1, fun e => ⟨_, h2, ?_, ?_⟩⟩
  · cases e
    · exact atI_nat (j := 0) rfl
    · exact atI_nat (j := 1) rfl
  · cases e
    · exact h3
    · exact h4
end
/-- two lists of one length, their items in a relation place by place -/
structure All2 {α β : Type} (R : α → β → Prop) (xs : List α) (ys : List β) : Prop where
  len : xs.length = ys.length
  at_ : ∀ (i : Nat) (x : α) (y : β), xs[i]? = some x → ys[i]? = some y → R x y
section
variable {α β : Type} {R R' : α → β → Prop} {xs xs' : List α} {ys ys' : List β}
theorem All2.nil : All2 R [] [] := ⟨rfl, fun i x y h => by simp at h⟩
theorem All2.mono (h : All2 R xs ys) (f : ∀ x y, R x y → R' x y) : All2 R' xs ys := ⟨h.len, fun i x y a b => f x y (h.at_ i x y a b)⟩
theorem All2.get (h : All2 R xs ys) {i : Nat} {y : β} (e : ys[i]? = some y) : ∃ x, xs[i]? = some x ∧ R x y := by
  have hi : i < xs.length := by
    rw [h.len]
    exact (List.getElem?_eq_some_iff.mp e).1
  exact ⟨xs[i], List.getElem?_eq_getElem hi, h.at_ i _ _ (List.getElem?_eq_getElem hi) e⟩
theorem All2.get' (h : All2 R xs ys) {i : Nat} {x : α} (e : xs[i]? = some x) : ∃ y, ys[i]? = some y ∧ R x y := by
  have hi : i < ys.length := by
    rw [← h.len]
    exact (List.getElem?_eq_some_iff.mp e).1
  exact ⟨ys[i], List.getElem?_eq_getElem hi, h.at_ i _ _ e (List.getElem?_eq_getElem hi)⟩
theorem All2.append (h : All2 R xs ys) (h' : All2 R xs' ys') : All2 R (xs ++ xs') (ys ++ ys') := by
  refine ⟨by rw [List.length_append, List.length_append, h.len, h'.len], fun i x y a b => ?_⟩
  have l := h.len
  by_cases c : i < xs.length
  · rw [List.getElem?_append_left c] at a
    rw [List.getElem?_append_left (by omega)] at b
    exact h.at_ i x y a b
  · rw [List.getElem?_append_right (by omega)] at a b
    rw [← l] at b
    exact h'.at_ _ x y a b
theorem All2.one {x : α} {y : β} (h : R x y) : All2 R [x] [y] := ⟨rfl, fun i a b ha hb => by
  cases i with
  | zero =>
    have e1 : x = a := by simpa using ha
    have e2 : y = b := by simpa using hb
    rw [← e1, ← e2]
    exact h
  | succ i => simp at ha⟩
theorem All2.snoc {x : α} {y : β} (h : All2 R xs ys) (h' : R x y) : All2 R (xs ++ [x]) (ys ++ [y]) := h.append (All2.one h')
theorem All2.cons {x : α} {y : β} (h' : R x y) (h : All2 R xs ys) : All2 R (x :: xs) (y :: ys) := (All2.one h').append h
theorem All2.tail {x : α} {y : β} (h : All2 R (x :: xs) (y :: ys)) : R x y ∧ All2 R xs ys :=
  ⟨h.at_ 0 x y rfl rfl, by have := h.len; simpa using this, fun i a b ha hb => h.at_ (i + 1) a b (by simpa using ha) (by simpa using hb)⟩
theorem All2.drop (h : All2 R xs ys) (n : Nat) : All2 R (xs.drop n) (ys.drop n) := ⟨by rw [List.length_drop, List.length_drop, h.len], fun i x y a b => h.at_ (n + i) x y (by rw [← List.getElem?_drop]; exact a) (by rw [← List.getElem?_drop]; exact b)⟩
theorem All2.take (h : All2 R xs ys) (n : Nat) : All2 R (xs.take n) (ys.take n) := by
  refine ⟨by rw [List.length_take, List.length_take, h.len], fun i x y a b => ?_⟩
  have hi := (List.getElem?_eq_some_iff.mp a).1
  rw [List.length_take] at hi
  rw [List.getElem?_take_of_lt (by omega)] at a b
  exact h.at_ i x y a b
theorem All2.init {x : α} {y : β} (h : All2 R (xs ++ [x]) (ys ++ [y])) : All2 R xs ys ∧ R x y := by
  have l := h.len
  rw [List.length_append, List.length_append] at l
  simp at l
  refine ⟨⟨l, fun i a b ha hb => h.at_ i a b ?_ ?_⟩, h.at_ xs.length x y (by simp) (by rw [l]; simp)⟩
  · rw [List.getElem?_append_left (List.getElem?_eq_some_iff.mp ha).1]
    exact ha
  · rw [List.getElem?_append_left (List.getElem?_eq_some_iff.mp hb).1]
    exact hb
end
theorem nil_or_snoc {α : Type} (l : List α) : l = [] ∨ ∃ l' x, l = l' ++ [x] := by
  rcases List.eq_nil_or_concat l with h | ⟨l', x, h⟩
  · exact Or.inl h
  · rw [List.concat_eq_append] at h
    exact Or.inr ⟨l', x, h⟩
/-- the i-th of a list of references -/
theorem ref_at {as : List Addr} {i : Nat} {y : V} (h : (as.map V.ref)[i]? = some y) : ∃ a, as[i]? = some a ∧ y = V.ref a := by
  rw [List.getElem?_map] at h
  cases e : as[i]? with
  | none => rw [e] at h; cases h
  | some a =>
    rw [e] at h
    exact ⟨a, rfl, (Option.some.inj h).symm⟩
def WrAt (H : Hp) (t : Addr) (w : Write) : Prop := H t = some (.tup [.int (eV w.ep), .int w.len, .str (mV w.mode)])
def ConvAt (H : Hp) (a : Addr) (ws : List Write) : Prop := ∃ ts : List Addr, H a = some (.lst (ts.map V.ref)) ∧ All2 (WrAt H) ts ws
structure WrOk (w : Write) : Prop where
  lo : 1 ≤ w.len
  hi : w.len ≤ 10 ^ 18
theorem ConvAt.mono {H H' : Hp} {a : Addr} {ws : List Write} (h : ConvAt H a ws) (s : Same H H') : ConvAt H' a ws := by
  obtain ⟨ts, h1, h2⟩ := h
  exact ⟨ts, s _ _ h1, h2.mono fun t w q => s _ _ q⟩
section
variable {X : Cx} {x : Str} {pos : Pos}
theorem gint {i : Int} {t : Tok} (h : X.mg x = some (.int i t)) (hg : Gl X x := by rfl) (hd : (x == ("__debug__" : Str)) = false := by decide) : PE X (.Name x pos) (tC (.int i)) := pe_glob hg h ⟨t, rfl⟩ hd
theorem gstr {z : Str} {t : Tok} (h : X.mg x = some (.str z t)) (hg : Gl X x := by rfl) (hd : (x == ("__debug__" : Str)) = false := by decide) : PE X (.Name x pos) (tC (.str z)) := pe_glob hg h ⟨t, rfl⟩ hd
theorem gref {a : Addr} (h : X.mg x = some (.ref a)) (hg : Gl X x := by rfl) (hd : (x == ("__debug__" : Str)) = false := by decide) : PE X (.Name x pos) (tC (.ref a)) := pe_glob hg h rfl hd
end
end Lw
namespace Lw
open PySem PySem.Spec PyProof.Rows L2
section
variable {X : Cx} {e : Expr}
/-- what is never asked -/
theorem pt_never : PT X e (fun _ _ _ => False) := ⟨fun _ _ _ _ _ _ h => h.elim⟩
theorem pe_never : PE X e (fun _ _ _ => False) := ⟨fun _ _ _ _ _ _ h => h.elim⟩
end
end Lw

/-! Dicts whose keys are tuples of anything plain, over the abstract heap. -/
namespace Lw
open PySem PySem.Spec PyProof.Rows L2
/-! ### a value as a nested key -/
mutual
inductive NK (H : Hp) : V → NestedKey → Prop
  | non : NK H .non .none
  | bl (b : Bool) : NK H (.bl b) (.num (if b = true then 1 else 0))
  | int (i : Int) : NK H (.int i) (.num i)
  | str (x : Str) : NK H (.str x) (.text x)
  | tup {a : Addr} {vs : List V} {ks : List NestedKey} : H a = some (.tup vs) → NKs H vs ks → NK H (.ref a) (.tup ks)
inductive NKs (H : Hp) : List V → List NestedKey → Prop
  | nil : NKs H [] []
  | cons {v : V} {k : NestedKey} {vs : List V} {ks : List NestedKey} : NK H v k → NKs H vs ks → NKs H (v :: vs) (k :: ks)
end
mutual
theorem NK.mono {H H' : Hp} (s : Same H H') : ∀ {v : V} {k : NestedKey}, NK H v k → NK H' v k
  | _, _, .non => .non
  | _, _, .bl b => .bl b
  | _, _, .int i => .int i
  | _, _, .str x => .str x
  | _, _, .tup h q => .tup (s _ _ h) (NKs.mono s q)
theorem NKs.mono {H H' : Hp} (s : Same H H') : ∀ {vs : List V} {ks : List NestedKey}, NKs H vs ks → NKs H' vs ks
  | _, _, .nil => .nil
  | _, _, .cons h q => .cons (NK.mono s h) (NKs.mono s q)
end
mutual
theorem nk_is {P : Program} {w : World} {H : Hp} {h : Heap} (ok : HOk P w H h) : ∀ {v : V} {k : NestedKey} {u : Value}, NK H v k → RelV v u → NestedIs h k u
  | _, _, u, .non, r => by
    obtain rfl : u = Value.none := r
    exact .none
  | _, _, u, .bl b, r => by
    obtain rfl : u = Value.bool b := r
    exact .bool rfl
  | _, _, u, .int i, r => by
    obtain ⟨t, rfl⟩ : ∃ t, u = Value.int i t := r
    exact .int i t
  | _, _, u, .str x, r => by
    obtain ⟨t, rfl⟩ : ∃ t, u = Value.str x t := r
    exact .text x t
  | _, _, u, .tup (a := a) (vs := vs) h1 q, r => by
    obtain rfl : u = Value.ref a := r
    obtain ⟨_, its, rv, o, e1, e2, n, e3⟩ := (show ObjOk P w H h a (.tup vs) from ok a _ h1)
    exact .tup e1 e2 e3 (by simpa using nks_is ok q rv)
theorem nks_is {P : Program} {w : World} {H : Hp} {h : Heap} (ok : HOk P w H h) : ∀ {vs : List V} {ks : List NestedKey} {us : List Value}, NKs H vs ks → Vals vs us → NestedAll h ks us
  | _, _, _, .nil, r => by
    cases r
    exact .nil
  | _, _, _, .cons q t, r => by
    cases r with
    | cons r1 r2 => exact .cons (nk_is ok q r1) (nks_is ok t r2)
end
/-! ### keys of one's own type -/
structure Enc (κ : Type) where
  enc : κ → NestedKey
  inj : ∀ a b, enc a = enc b → a = b
  deep : ∀ a, (enc a).depth ≤ 8
section
variable {κ : Type} [DecidableEq κ]
def valN (rows : List (κ × Addr × V)) (k : κ) : Option V := (rows.find? fun x => decide (x.1 = k)).map (·.2.2)
def putN (rows : List (κ × Addr × V)) (k : κ) (b : Addr) (v : V) : List (κ × Addr × V) :=
  if (valN rows k).isSome then rows.map fun x => if x.1 = k then (x.1, x.2.1, v) else x else rows ++ [(k, b, v)]
theorem putN_length (rows : List (κ × Addr × V)) (k : κ) (b : Addr) (v : V) : (putN rows k b v).length ≤ rows.length + 1 := by
  unfold putN
  split <;> simp
/-- the rows of the true dict -/
abbrev RelN (E : Enc κ) : List (κ × Addr × V) → List (NestedKey × Addr × Value) → Prop := Paired fun p q => E.enc p.1 = q.1 ∧ p.2.1 = q.2.1 ∧ RelV p.2.2 q.2.2
theorem relN_val {E : Enc κ} {rows : List (κ × Addr × V)} {xs : List (NestedKey × Addr × Value)} (r : RelN E rows xs) (k : κ) : RelO (valN rows k) ((atKey xs (E.enc k)).map (·.2)) := by
  unfold RelN at r
  induction r with
  | nil => exact True.intro
  | @cons p q ps qs h t ih =>
    by_cases e : p.1 = k
    · have e2 : q.1 = E.enc k := by rw [← h.1, e]
      simp only [valN, atKey, List.find?_cons, e, e2, decide_true, Option.map_some]
      exact h.2.2
    · have e2 : ¬ q.1 = E.enc k := fun z => e (E.inj _ _ (by rw [h.1, z]))
      simp only [valN, atKey, List.find?_cons, e, e2, decide_false]
      exact ih
theorem relN_put {E : Enc κ} {rows : List (κ × Addr × V)} {xs : List (NestedKey × Addr × Value)} (r : RelN E rows xs) (k : κ) {b : Addr} {v : V} {u : Value} (rv : RelV v u) : RelN E (putN rows k b v) (storedH xs (E.enc k) b u) := by
  have q := (relN_val r k).isSome_eq
  rw [Option.isSome_map] at q
  unfold putN storedH
  rw [q]
  split
  · clear q
    rename_i hh
    clear hh
    unfold RelN at r ⊢
    induction r with
    | nil => exact .nil
    | @cons p q ps qs h t ih =>
      rw [List.map_cons, List.map_cons]
      refine .cons ?_ ih
      unfold putAt
      by_cases e : p.1 = k
      · have e2 : q.1 = E.enc k := by rw [← h.1, e]
        rw [if_pos e, if_pos e2]
        exact ⟨h.1, h.2.1, rv⟩
      · have e2 : ¬ q.1 = E.enc k := fun z => e (E.inj _ _ (by rw [h.1, z]))
        rw [if_neg e, if_neg e2]
        exact h
  · unfold RelN at r ⊢
    clear q
    rename_i hh
    clear hh
    induction r with
    | nil => exact .cons ⟨rfl, rfl, rv⟩ .nil
    | @cons p q ps qs h t ih => exact .cons h ih
end
/-- the dict at a, its keys and values by rows: (key, the key's own tuple, value) -/
def dN {κ : Type} (P : Program) (w : World) (E : Enc κ) (a : Addr) (rows : List (κ × Addr × V)) : HO := .ext fun h => (a == sysModules) = false ∧ rows.length ≤ sizeLine ∧ ∃ xs, RelN E rows xs ∧
  ∃ o es ep, h.get? a = some o ∧ o.ExactDict ∧ o.data = .dict es ep ∧ es.toList = xs.map (entryOfKey (nestedKind P w)) ∧ (xs.map (·.1)).Nodup
/-- the keys' own tuples -/
def KeysAt {κ : Type} (H : Hp) (E : Enc κ) (rows : List (κ × Addr × V)) : Prop := ∀ x ∈ rows, NK H (.ref x.2.1) (E.enc x.1)
theorem KeysAt.mono {κ : Type} {H H' : Hp} {E : Enc κ} {rows : List (κ × Addr × V)} (h : KeysAt H E rows) (s : Same H H') : KeysAt H' E rows := fun x hx => (h x hx).mono s
section
variable {κ : Type} [DecidableEq κ] {E : Enc κ} {P : Program} {w : World} {H : Hp} {h : Heap} {a : Addr} {rows : List (κ × Addr × V)}
theorem dN_ok {H' : Hp} {h' : Heap} {xs : List (NestedKey × Addr × Value)} (hd : (a == sysModules) = false) (hl : rows.length ≤ sizeLine) (r : RelN E rows xs) (dd : h'.DictOfH (nestedKind P w) a xs) : ObjOk P w H' h' a (dN P w E a rows) := by
  obtain ⟨o, es, ep, h1, h2, h3, h4, h5, h6⟩ := dd
  refine ⟨⟨hd, hl, xs, r, o, es, ep, h1, h2, h3, h4, h6⟩, ⟨o, h1⟩, fun ha hb q k => ?_⟩
  obtain ⟨g0, g1, xs', r', o', es', ep', e1, e2⟩ := q
  exact ⟨g0, g1, xs', r', o', es', ep', k _ e1, e2⟩
theorem keys_is (ok : HOk P w H h) {xs : List (NestedKey × Addr × Value)} (r : RelN E rows xs) (kk : KeysAt H E rows) : ∀ x ∈ xs, (nestedKind P w).is h x.1 x.2.1 := by
  unfold RelN at r
  induction r with
  | nil => intro x hx; cases hx
  | @cons p q ps qs h t ih =>
    intro x hx
    rcases List.mem_cons.mp hx with e | hx
    · subst e
      rw [← h.1, ← h.2.1]
      exact ⟨nk_is ok (kk p List.mem_cons_self) rfl, E.deep _⟩
    · exact ih (fun y hy => kk y (List.mem_cons_of_mem _ hy)) x hx
theorem dN_rd (ok : HOk P w H h) (e : Rd H a (dN P w E a rows)) (kk : KeysAt H E rows) : rows.length ≤ sizeLine ∧ (a == sysModules) = false ∧ ∃ xs, RelN E rows xs ∧ h.DictOfH (nestedKind P w) a xs := by
  obtain ⟨⟨hd, hl, xs, r, o, es, ep, h1, h2, h3, h4, h6⟩, _⟩ := (show ObjOk P w H h a (dN P w E a rows) from e.ok ok)
  exact ⟨hl, hd, xs, r, o, es, ep, h1, h2, h3, h4, keys_is ok r kk, h6⟩
theorem key_isN (ok : HOk P w H h) {b : Addr} {k : κ} (q : NK H (.ref b) (E.enc k)) : (nestedKind P w).is h (E.enc k) b := ⟨nk_is ok q rfl, E.deep k⟩
end
/-! ### the rules -/
section
variable {κ : Type} [DecidableEq κ] {X : Cx} {E : Enc κ}
def rInN (P : Program) (w : World) (E : Enc κ) : R2 := fun x y H Q => ∃ (b d : Addr) (k : κ) (rows : List (κ × Addr × V)), x = .ref b ∧ y = .ref d ∧ Rd H d (dN P w E d rows) ∧ KeysAt H E rows ∧ NK H (.ref b) (E.enc k) ∧ Q (.bl (valN rows k).isSome) H
def rNotInN (P : Program) (w : World) (E : Enc κ) : R2 := fun x y H Q => ∃ (b d : Addr) (k : κ) (rows : List (κ × Addr × V)), x = .ref b ∧ y = .ref d ∧ Rd H d (dN P w E d rows) ∧ KeysAt H E rows ∧ NK H (.ref b) (E.enc k) ∧ Q (.bl (!(valN rows k).isSome)) H
theorem op_inN (E : Enc κ) (hu : X.A.units + 64 < cLine) : OpR X (compareOp .In) (rInN X.prog X.w E) := by
  intro pins s σ H x y v u Q I rx ry h
  obtain ⟨b, d, k, rows, rfl, rfl, e, kk, kb, q⟩ := h
  obtain rfl : v = Value.ref b := rx
  obtain rfl : u = Value.ref d := ry
  obtain ⟨z, hd, xs, rel, dd⟩ := dN_rd I.hok e kk
  refine wpAny_in_heap (show X.A.in1.units + 8 < cLine from Nat.lt_of_le_of_lt (Nat.add_le_add_left (by decide) _) (show X.A.in1.units + 63 < cLine from hu)) (key_isN I.hok kb) hd dd ?_
  have q2 := (relN_val rel k).isSome_eq
  rw [Option.isSome_map] at q2
  rw [← q2]
  exact ⟨.bl (valN rows k).isSome, H, I.tok _, rfl, q⟩
theorem op_notInN (E : Enc κ) (hu : X.A.units + 64 < cLine) : OpR X (compareOp .NotIn) (rNotInN X.prog X.w E) := by
  intro pins s σ H x y v u Q I rx ry h
  obtain ⟨b, d, k, rows, rfl, rfl, e, kk, kb, q⟩ := h
  obtain rfl : v = Value.ref b := rx
  obtain rfl : u = Value.ref d := ry
  obtain ⟨z, hd, xs, rel, dd⟩ := dN_rd I.hok e kk
  refine wpAny_notIn_heap (show X.A.in1.units + 8 < cLine from Nat.lt_of_le_of_lt (Nat.add_le_add_left (by decide) _) (show X.A.in1.units + 63 < cLine from hu)) (key_isN I.hok kb) hd dd ?_
  have q2 := (relN_val rel k).isSome_eq
  rw [Option.isSome_map] at q2
  rw [← q2]
  exact ⟨.bl (!(valN rows k).isSome), H, I.tok _, rfl, q⟩
variable {o i e value : Expr} {pos pos' : Pos} {td ti tv : TE}
/-- d[y] -/
def tNGet (P : Program) (w : World) (E : Enc κ) (td ti : TE) : TE := fun σ H Q => td σ H fun x H1 => ti σ H1 fun y H2 => ∃ (d b : Addr) (k : κ) (rows : List (κ × Addr × V)) (v : V), x = .ref d ∧ y = .ref b ∧
  Rd H2 d (dN P w E d rows) ∧ KeysAt H2 E rows ∧ NK H2 (.ref b) (E.enc k) ∧ valN rows k = some v ∧ Q v H2
theorem pe_nget (E : Enc κ) (hu : X.A.units + 64 < cLine) (ho : PE X o td) (hi : PE X i ti) (hs : NoSl i) : PE X (.Subscript o i pos) (tNGet X.prog X.w E td ti) := by
  refine ⟨fun pins s σ H Q I h => ?_⟩
  refine subD_of PySem.F.slot_dict_getitem.lookup hs (thn (ho.run pins s σ H _ I h) fun u s1 ⟨x, H1, I1, rx, q1⟩ => thn (hi.run pins s1 σ H1 _ I1 q1) fun iv s2 ⟨y, H2, I2, ry, d, b, k, rows, v, ex, ey, e, kk, kb, g, q2⟩ => ?_)
  subst ex ey
  obtain rfl : u = Value.ref d := rx
  obtain rfl : iv = Value.ref b := ry
  obtain ⟨z, hd, xs, rel, dd⟩ := dN_rd I2.hok e kk
  refine ⟨dd.typeIs, ?_⟩
  obtain ⟨w', hw, rw'⟩ := RelO.some_of (v := v) (o := (atKey xs (E.enc k)).map (·.2)) (by rw [← g]; exact relN_val rel k)
  obtain ⟨p, hp, hp2⟩ := Option.map_eq_some_iff.mp hw
  refine wpAny_getItem_heap (show X.A.in1.units + 8 < cLine from Nat.lt_of_le_of_lt (Nat.add_le_add_left (by decide) _) (show X.A.in1.units + 63 < cLine from hu)) (key_isN I2.hok kb) dd hp ?_
  rw [hp2]
  exact ⟨v, H2, I2.tok _, rw', q2⟩
/-- d[y] = v -/
def sNPut (P : Program) (w : World) (E : Enc κ) (td ti tv : TE) : TS := fun D σ H => tv σ H fun v H1 => td σ H1 fun x H2 => ti σ H2 fun y H3 => ∃ (d b : Addr) (k : κ) (rows : List (κ × Addr × V)), x = .ref d ∧ y = .ref b ∧
  H3 d = some (dN P w E d rows) ∧ KeysAt H3 E rows ∧ NK H3 (.ref b) (E.enc k) ∧ rows.length < sizeLine ∧ D.nx σ (upd H3 d (dN P w E d (putN rows k b v)))
theorem ps_nput (E : Enc κ) (hu : X.A.units + 64 < cLine) (ho : PE X o td) (hi : PE X i ti) (hv : PE X value tv) (hs : swapsWith value (some (.Subscript o i pos')) pos.line X.env = pure false := by rfl) :
    PS X (.Assign [.Subscript o i pos'] value pos) (sNPut X.prog X.w E td ti tv) := by
  refine ⟨fun pins s σ H D I h => ?_⟩
  refine wpAny_Assign_Subscript (thn (hv.run pins s σ H _ I h) fun r s1 ⟨v, H1, I1, rv, q1⟩ => thn (ho.run pins s1 σ H1 _ I1 q1) fun u s2 ⟨x, H2, I2, rx, q2⟩ => thn (hi.run pins s2 σ H2 _ I2 q2) fun iv s3 ⟨y, H3, I3, ry, d, b, k, rows, ex, ey, e, kk, kb, g, q3⟩ => ?_) hs
  subst ex ey
  obtain rfl : u = Value.ref d := rx
  obtain rfl : iv = Value.ref b := ry
  obtain ⟨z, hd, xs, rel, dd⟩ := dN_rd I3.hok (.inl e) kk
  have hz : xs.length ≤ sizeLine := by rw [← Paired.length rel]; exact z
  have hl : (putN rows k b v).length ≤ sizeLine := by have := putN_length rows k b v; omega
  refine wpAny_setItem_heap (hsz := hz) (show X.A.in1.units + 8 < cLine from Nat.lt_of_le_of_lt (Nat.add_le_add_left (by decide) _) (show X.A.in1.units + 63 < cLine from hu)) (key_isN I3.hok kb) dd fun h' dd' hs => ?_
  obtain ⟨qo, es, ep, hq, h2, h3, h4, h5, h6⟩ := id dd'
  exact ⟨σ, _, d_write I3 (by rw [e]; exact True.intro) hs ⟨qo, hq⟩ (dN_ok hd hl (relN_put rel k rv) dd'), q3⟩
/-- {} -/
def tNNew (P : Program) (w : World) (E : Enc κ) : TE := fun _ H Q => ∀ p, H p = none → Q (.ref p) (upd H p (dN P w E p []))
theorem dN_empty {P : Program} {w : World} {H : Hp} (E : Enc κ) (h : Heap) (hb : sysModules < h.objs.size) : ObjOk P w H (h.push { cls := .type "dict", data := .dict #[] }) h.objs.size (dN P w E h.objs.size []) :=
  dN_ok (beq_eq_false_iff_ne.mpr (Ne.symm (Nat.ne_of_lt hb))) (Nat.zero_le _) .nil (Heap.DictOfH.new h)
theorem pe_nnew (E : Enc κ) : PE X (.Dict [] [] pos) (tNNew X.prog X.w E) := ⟨fun pins s σ H Q I h =>
  wpAny_Dict_empty ⟨.ref s.heap.objs.size, _, I.laid (a := s.heap.objs.size) (o := dN X.prog X.w E s.heap.objs.size []) (t' := s.toks) (fun _ _ q => Heap.get?_push_of_some _ q) (Nat.le_refl _) (dN_empty E s.heap I.big), rfl, h _ (I.hok.fresh (Nat.le_refl _))⟩⟩
/-- {k: v} -/
def tNOne (P : Program) (w : World) (E : Enc κ) (tk tv : TE) : TE := fun σ H Q => ∀ p, H p = none → tk σ (upd H p (dN P w E p [])) fun y H1 => tv σ H1 fun v H2 => ∃ (b : Addr) (k : κ), y = .ref b ∧ H2 p = some (dN P w E p []) ∧
  NK H2 (.ref b) (E.enc k) ∧ Q (.ref p) (upd H2 p (dN P w E p [(k, b, v)]))
theorem pe_none (E : Enc κ) {tk : TE} (hu : X.A.units + 64 < cLine) (hk : PE X i tk) (hv : PE X value tv) : PE X (.Dict [some i] [value] pos) (tNOne X.prog X.w E tk tv) := by
  refine ⟨fun pins s σ H Q I q => ?_⟩
  have hn := I.hok.fresh (Nat.le_refl s.heap.objs.size)
  have I1 := I.laid (a := s.heap.objs.size) (o := dN X.prog X.w E s.heap.objs.size []) (h' := s.heap.push { cls := .type "dict", data := .dict #[] }) (t' := s.toks) (fun _ _ q => Heap.get?_push_of_some _ q) (Nat.le_refl _) (dN_empty E s.heap I.big)
  have disp : ∀ {Q0 : Value → Shared → Prop}, wpAny (model X.prog X.w) X.A (evalPairs (pairTrees [some i] [value] X.env pos)) (fun vs s₁ => ∃ ps, CarriesH (nestedKind X.prog X.w) s₁.heap vs ps ∧ s₁.heap.DictOfH (nestedKind X.prog X.w) s.heap.objs.size [] ∧
      ∀ h' tk, h'.DictOfH (nestedKind X.prog X.w) s.heap.objs.size (storedAllH [] ps) → Heap.SameBut s.heap.objs.size s₁.heap h' → Q0 (.ref s.heap.objs.size) { s₁ with heap := h', toks := tk }) X.xe
      { s with heap := s.heap.push { cls := .type "dict", data := .dict #[] } } → wpAny (model X.prog X.w) X.A (eval (.Dict [some i] [value] pos) X.env) Q0 X.xe s := fun {Q0} h => by
    rw [arm_eval_Dict, zip_pairTrees [some i] [value] X.env pos rfl rfl, dictDisplay_pairs (pairTrees [some i] [value] X.env pos) (fun z => nomatch z) (by show 1 < 17; decide)]
    exact wpAny_bind (wpAny_standAt (wpAny_bind (wpAny_subDictH (knd := nestedKind X.prog X.w) (Q := fun d s' => wpAny (model X.prog X.w) X.A (pure (Value.ref d)) Q0 X.xe s') (show X.A.units + 8 < cLine by omega) (by show 1 ≤ 15; decide)
      (wpAny_mono h (fun vs s₁ h₁ => by obtain ⟨ps, hc, hm, hq⟩ := h₁; exact ⟨ps, hc, hm, fun h' tk a b => wpAny_pure (hq h' tk a b)⟩) fun _ _ e => e))))
  refine disp (pairTrees_cons_walk (thn (hk.run pins _ σ _ _ I1 (q _ hn)) fun u s1 ⟨y, H1, I2, ry, q1⟩ => thn (hv.run pins s1 σ H1 _ I2 q1) fun vv s2 ⟨v, H2, I3, rv, b, k, ey, e, kb, q2⟩ => pairTrees_nil_walk ?_))
  subst ey
  obtain rfl : u = Value.ref b := ry
  obtain ⟨z, hd, xs, rel, dd⟩ := dN_rd I3.hok (.inl e) (fun x hx => nomatch hx)
  cases rel
  refine ⟨[(E.enc k, b, vv)], ⟨rfl, rfl, key_isN I3.hok kb, trivial⟩, dd, fun h' tk dd' hs => ?_⟩
  obtain ⟨qo, es, ep, hq, h2, h3, h4, h5, h6⟩ := id dd'
  exact ⟨.ref s.heap.objs.size, _, d_write I3 (by rw [e]; exact True.intro) hs ⟨qo, hq⟩ (dN_ok (rows := [(k, b, v)]) hd (by show 1 ≤ sizeLine; decide) (.cons ⟨rfl, rfl, rv⟩ .nil) dd'), rfl, q2⟩
end
/-! ### for k in d, of the locked dict at d -/
def Itn {κ : Type} (P : Program) (w : World) (E : Enc κ) (d : Addr) (o : Obj) (rows : List (κ × Addr × V)) : It :=
  ⟨fun i H => H d = some (.frz o (dN P w E d rows)) ∧ i < rows.length, fun i H x H' => H' = H ∧ ∃ (r : κ × Addr × V), rows[i]? = some r ∧ x = .ref r.2.1, fun i H => H d = some (.frz o (dN P w E d rows)) ∧ rows.length ≤ i⟩
section
variable {κ : Type} [DecidableEq κ] {E : Enc κ} {X : Cx} {pins : List (Addr × Obj)} {σ : L2.St} {H : Hp} {s : Shared} {d : Addr} {o : Obj} {rows : List (κ × Addr × V)}
theorem frzN (I : Inv X pins σ H s) (h : H d = some (.frz o (dN X.prog X.w E d rows))) :
    (d == sysModules) = false ∧ s.heap.get? d = some o ∧ o.ExactDict ∧ ∃ (es : Array DictEntry) (ep : Nat), o.data = .dict es ep ∧ es.size = rows.length ∧
      ∀ (i : Nat) (r : κ × Addr × V), rows[i]? = some r → ∃ (en : DictEntry), es[i]? = some en ∧ en.key = .ref r.2.1 := by
  obtain ⟨hd, ⟨hs, hl, xs, pr, o', es, ep, ho, hx, hdt, he, _⟩, _⟩ := I.hok d _ h
  rw [hd] at ho
  cases ho
  refine ⟨hs, hd, hx, es, ep, hdt, ?_, fun i r e => ?_⟩
  · have l1 : es.size = xs.length := size_of_entries he
    have l2 : rows.length = xs.length := Paired.length pr
    omega
  · obtain ⟨b, hb, e1, e2, _⟩ := paired_get pr e
    have q := entry_at he i
    rw [hb] at q
    exact ⟨_, q, by rw [e2]; rfl⟩
end
section
variable {κ : Type} [DecidableEq κ] {E : Enc κ} {P : Program} {w : World} {K : PySem.W.Frag} {tg : Expr} {d : Addr} {o : Obj} {es : Array DictEntry} {ep : Nat}
theorem turn_keysN {rows : List (κ × Addr × V)} (it : Addr) (hod : o.data = .dict es ep) : Turn P w K tg (Itn P w E d o rows) [it] it (fun i h => h.IsKeyIter it d i rows.length ep) where
  mem := by simp
  obj := fun i h st b hb => by
    have e : b = it := by simpa using hb
    subst e
    obtain ⟨oi, e, c, dd⟩ := st
    exact ⟨oi, e, fun v z => by rw [dd] at z; cases z⟩
  keep := fun i h h' st k => st.at fun oi e => k it (by simp) oi e
  item := by
    intro X hP hw hK hc i pins s σ H E I hf st hg
    subst hP hw hK
    obtain ⟨hd, hi⟩ := hg
    obtain ⟨f0, f1, f2, f3, f4, f5⟩ := hf it (by simp)
    obtain ⟨hs, hgd, hx, es', ep', hdt, hsz, ent⟩ := frzN I hd
    obtain ⟨rfl, rfl⟩ := dict_ep hod hdt
    obtain ⟨r, hkv⟩ : ∃ p, rows[i]? = some p := ⟨rows[i], List.getElem?_eq_getElem hi⟩
    obtain ⟨en, hen, hkey⟩ := ent i r hkv
    refine next_key_item st hgd hdt hsz hen fun h' st' sb => ?_
    have I1 : Inv X pins σ H { s with heap := h' } := I.turned (t' := s.toks) (fun b ob hb e => (sb.2 b hb).trans e) f0 f1 f3 f4 f5
    obtain ⟨oi, e, c, dd⟩ := id st'
    exact ⟨en.key, rfl, go_of (s := { s with heap := h' }) e c dd (by decide) ⟨.ref r.2.1, H, I1, hkey, ⟨rfl, r, hkv, rfl⟩, st', fun b hb => (hf b hb).1⟩⟩
  done := by
    intro X hP hw hK hc i pins s σ H E I hf st hg
    subst hP hw hK
    obtain ⟨hd, hi⟩ := hg
    obtain ⟨f0, f1, f2, f3, f4, f5⟩ := hf it (by simp)
    obtain ⟨hs, hgd, hx, es', ep', hdt, hsz, ent⟩ := frzN I hd
    obtain ⟨rfl, rfl⟩ := dict_ep hod hdt
    exact next_key_end (I.ok.hd hc) st hgd hdt hsz hi fun h' eb => ⟨rfl, I.turned (t' := s.toks) (fun b ob hb e => eb b ob hb e) f0 f1 f3 f4 f5⟩
  self := fun A i s Q E st h => by
    refine wpAny_pyIter_slot st.typeIs F.slot_dict_keyiterator_iter (wpAny_call_entry F.slot_dict_keyiterator_iter st.typeIs F.entry_dict_keyiterator_iter ?_ (F.args_dict_keyiterator_iter_1 _))
    show wpAny _ _ (ret (.ref it)) _ _ s
    exact wpAny_pure ⟨_, rfl, "dict_keyiterator", _, st.typeIs, F.slot_dict_keyiterator_next.lookup, h⟩
end
def iKeysN {κ : Type} (P : Program) (w : World) (E : Enc κ) (td : TE) : TI := fun σ H R => td σ H fun x H1 => ∃ (d : Addr) (o : Obj) (rows : List (κ × Addr × V)), x = .ref d ∧ H1 d = some (.frz o (dN P w E d rows)) ∧ R (Itn P w E d o rows) H1
section
variable {κ : Type} [DecidableEq κ] {X : Cx} {tg e : Expr} {td : TE}
theorem pi_keysN (E : Enc κ) (he : PE X e td) : PI X tg e (iKeysN X.prog X.w E td) := by
  refine ⟨fun pins s σ H R I h => ?_⟩
  refine thn (he.run pins s σ H _ I h) fun u s1 ⟨x, H1, I1, rx, d, o, rows, ex, hd, q⟩ => ?_
  subst ex
  obtain rfl : u = Value.ref d := rx
  obtain ⟨hs, hgd, hx, es, ep, hdt, hsz, ent⟩ := frzN I1 hd
  refine iter_keys hs hgd hx hdt (pi_one (tk := s1.toks) I1 _ (turn_keysN _ hdt) ⟨_, Heap.get?_push_size _ rfl, rfl, ?_⟩ q)
  rw [hsz] <;> rfl
end
theorem walk_keysN {κ : Type} {P : Program} {w : World} {E : Enc κ} {d : Addr} {o : Obj} {rows : List (κ × Addr × V)} : Walk (Itn P w E d o rows) rows.length (fun H => H d = some (.frz o (dN P w E d rows))) (fun i H x H' => H' = H ∧ ∃ r, rows[i]? = some r ∧ x = .ref r.2.1) :=
  ⟨fun _ _ hi q => ⟨q, hi⟩, fun _ q => ⟨q, Nat.le_refl _⟩, fun _ _ _ _ _ _ y => y⟩

/-! ### the rules, at a program and a world told -/
section
variable {κ : Type} [DecidableEq κ] {X : Cx} (E : Enc κ) (P : Program) (w : World) {o i e value tg : Expr} {pos pos' : Pos} {td ti tv tk : TE}
theorem inN (hu : X.A.units + 64 < cLine) (hP : X.prog = P := by rfl) (hw : X.w = w := by rfl) : OpR X (compareOp .In) (rInN P w E) := by
  subst hP hw
  exact op_inN E hu
theorem notInN (hu : X.A.units + 64 < cLine) (hP : X.prog = P := by rfl) (hw : X.w = w := by rfl) : OpR X (compareOp .NotIn) (rNotInN P w E) := by
  subst hP hw
  exact op_notInN E hu
theorem getN (hu : X.A.units + 64 < cLine) (ho : PE X o td) (hi : PE X i ti) (hs : NoSl i) (hP : X.prog = P := by rfl) (hw : X.w = w := by rfl) : PE X (.Subscript o i pos) (tNGet P w E td ti) := by
  subst hP hw
  exact pe_nget E hu ho hi hs
theorem nput (hu : X.A.units + 64 < cLine) (ho : PE X o td) (hi : PE X i ti) (hv : PE X value tv) (hs : swapsWith value (some (.Subscript o i pos')) pos.line X.env = pure false := by rfl) (hP : X.prog = P := by rfl) (hw : X.w = w := by rfl) :
    PS X (.Assign [.Subscript o i pos'] value pos) (sNPut P w E td ti tv) := by
  subst hP hw
  exact ps_nput E hu ho hi hv hs
theorem newN (hP : X.prog = P := by rfl) (hw : X.w = w := by rfl) : PE X (.Dict [] [] pos) (tNNew P w E) := by
  subst hP hw
  exact pe_nnew E
theorem oneN (hu : X.A.units + 64 < cLine) (hk : PE X i tk) (hv : PE X value tv) (hP : X.prog = P := by rfl) (hw : X.w = w := by rfl) : PE X (.Dict [some i] [value] pos) (tNOne P w E tk tv) := by
  subst hP hw
  exact pe_none E hu hk hv
theorem keysN (he : PE X e td) (hP : X.prog = P := by rfl) (hw : X.w = w := by rfl) : PI X tg e (iKeysN P w E td) := by
  subst hP hw
  exact pi_keysN E he
end
/-! ### rows by plain pairs -/
section
variable {κ β : Type} [DecidableEq κ]
def mput (kvs : List (κ × β)) (k : κ) (v : β) : List (κ × β) := if k ∈ kvs.map Prod.fst then kvs.map fun x => if x.1 = k then (x.1, v) else x else kvs ++ [(k, v)]
theorem mput_keys (kvs : List (κ × β)) (k : κ) (v : β) : (mput kvs k v).map Prod.fst = if k ∈ kvs.map Prod.fst then kvs.map Prod.fst else kvs.map Prod.fst ++ [k] := by
  unfold mput
  split
  · rw [List.map_map]
    refine List.map_congr_left fun x _ => ?_
    show (if x.1 = k then (x.1, v) else x).1 = x.1
    split <;> rfl
  · rw [List.map_append]
    rfl
theorem mput_nodup {kvs : List (κ × β)} (h : (kvs.map Prod.fst).Nodup) (k : κ) (v : β) : ((mput kvs k v).map Prod.fst).Nodup := by
  rw [mput_keys]
  split
  · exact h
  · rename_i n
    rw [List.nodup_append]
    refine ⟨h, by simp, fun a ha b hb => ?_⟩
    have eb : b = k := by simpa using hb
    rintro rfl
    exact n (eb ▸ ha)
theorem mem_mput_self (kvs : List (κ × β)) (k : κ) (v : β) : (k, v) ∈ mput kvs k v := by
  unfold mput
  split
  · rename_i h
    obtain ⟨x, hx, ex⟩ := List.mem_map.mp h
    refine List.mem_map.mpr ⟨x, hx, ?_⟩
    rw [if_pos ex, ex]
  · exact List.mem_append_right _ (List.mem_singleton.mpr rfl)
theorem mem_mput_ne {kvs : List (κ × β)} {k : κ} {v : β} {x : κ × β} (h : x ∈ kvs) (n : ¬ x.1 = k) : x ∈ mput kvs k v := by
  unfold mput
  split
  · exact List.mem_map.mpr ⟨x, h, if_neg n⟩
  · exact List.mem_append_left _ h
theorem mem_mput {kvs : List (κ × β)} {k : κ} {v : β} {y : κ × β} (h : y ∈ mput kvs k v) : y = (k, v) ∨ (y ∈ kvs ∧ ¬ y.1 = k) := by
  unfold mput at h
  split at h
  · obtain ⟨x, hx, ex⟩ := List.mem_map.mp h
    by_cases e : x.1 = k
    · rw [if_pos e] at ex
      exact .inl (by rw [← ex, e])
    · rw [if_neg e] at ex
      subst ex
      exact .inr ⟨hx, e⟩
  · rename_i n
    rcases List.mem_append.mp h with q | q
    · exact .inr ⟨q, fun e => n (List.mem_map.mpr ⟨y, q, e⟩)⟩
    · exact .inl (List.mem_singleton.mp q)
theorem mput_length (kvs : List (κ × β)) (k : κ) (v : β) : (mput kvs k v).length ≤ kvs.length + 1 := by
  unfold mput
  split <;> simp
/-- rows and their plain pairs -/
inductive Rows (VR : V → β → Prop) : List (κ × Addr × V) → List (κ × β) → Prop
  | nil : Rows VR [] []
  | cons {r : κ × Addr × V} {m : κ × β} {rs : List (κ × Addr × V)} {ms : List (κ × β)} : r.1 = m.1 → VR r.2.2 m.2 → Rows VR rs ms → Rows VR (r :: rs) (m :: ms)
variable {VR VR' : V → β → Prop} {rows : List (κ × Addr × V)} {kvs : List (κ × β)}
theorem Rows.mono (h : Rows VR rows kvs) (f : ∀ v b, VR v b → VR' v b) : Rows VR' rows kvs := by
  induction h with
  | nil => exact .nil
  | cons a b _ ih => exact .cons a (f _ _ b) ih
theorem Rows.length (h : Rows VR rows kvs) : rows.length = kvs.length := by
  induction h with
  | nil => rfl
  | cons _ _ _ ih => simp [ih]
theorem Rows.keys (h : Rows VR rows kvs) : rows.map (·.1) = kvs.map Prod.fst := by
  induction h with
  | nil => rfl
  | cons a _ _ ih => rw [List.map_cons, List.map_cons, a, ih]
theorem Rows.at_ (h : Rows VR rows kvs) {i : Nat} {r : κ × Addr × V} (e : rows[i]? = some r) : ∃ m, kvs[i]? = some m ∧ r.1 = m.1 ∧ VR r.2.2 m.2 := by
  induction h generalizing i with
  | nil => simp at e
  | @cons r' m' _ _ a b _ ih =>
    cases i with
    | zero =>
      have e : r' = r := by simpa using e
      subst e
      exact ⟨m', rfl, a, b⟩
    | succ i => exact ih (by simpa using e)
/-- what is found -/
theorem Rows.val (h : Rows VR rows kvs) (k : κ) : (valN rows k = none ∧ k ∉ kvs.map Prod.fst) ∨ ∃ v b, valN rows k = some v ∧ (k, b) ∈ kvs ∧ VR v b := by
  induction h with
  | nil => exact .inl ⟨rfl, fun z => nomatch z⟩
  | @cons r m rs ms a b _ ih =>
    by_cases e : r.1 = k
    · refine .inr ⟨r.2.2, m.2, ?_, ?_, b⟩
      · unfold valN
        rw [List.find?_cons, decide_eq_true e]
        rfl
      · have : (k, m.2) = m := by rw [← e, a]
        rw [this]
        exact List.mem_cons_self
    · have ev : valN (r :: rs) k = valN rs k := by
        unfold valN
        rw [List.find?_cons, decide_eq_false e]
      rw [ev]
      rcases ih with ⟨i1, i2⟩ | ⟨v, b', i1, i2, i3⟩
      · refine .inl ⟨i1, fun z => ?_⟩
        rw [List.map_cons] at z
        rcases List.mem_cons.mp z with q | q
        · exact e (a.trans q.symm)
        · exact i2 q
      · exact .inr ⟨v, b', i1, List.mem_cons_of_mem _ i2, i3⟩
theorem Rows.put (h : Rows VR rows kvs) (k : κ) (b : Addr) {v : V} {m : β} (q : VR v m) : Rows VR (putN rows k b v) (mput kvs k m) := by
  have c : (valN rows k).isSome = decide (k ∈ kvs.map Prod.fst) := by
    rcases h.val k with ⟨a1, a2⟩ | ⟨v', b', a1, a2, _⟩
    · rw [a1, decide_eq_false a2]
      rfl
    · rw [a1, decide_eq_true (List.mem_map.mpr ⟨_, a2, rfl⟩)]
      rfl
  unfold putN mput
  rw [c]
  by_cases hk : k ∈ kvs.map Prod.fst
  · rw [if_pos hk, decide_eq_true hk, if_pos rfl]
    clear c hk
    induction h with
    | nil => exact .nil
    | @cons r m' rs ms a b _ ih =>
      rw [List.map_cons, List.map_cons]
      by_cases e : r.1 = k
      · rw [if_pos e, if_pos (a.symm.trans e)]
        exact .cons a q ih
      · rw [if_neg e, if_neg (fun z => e (a.trans z))]
        exact .cons a b ih
  · rw [if_neg hk, decide_eq_false hk, if_neg (by decide)]
    clear c hk
    induction h with
    | nil => exact .cons rfl q .nil
    | cons a b _ ih => exact .cons a b ih
theorem KeysAt.put {H : Hp} {E : Enc κ} (h : KeysAt H E rows) {k : κ} {b : Addr} (v : V) (q : NK H (.ref b) (E.enc k)) : KeysAt H E (putN rows k b v) := by
  intro x hx
  unfold putN at hx
  split at hx
  · obtain ⟨y, hy, ey⟩ := List.mem_map.mp hx
    by_cases e : y.1 = k
    · rw [if_pos e] at ey
      subst ey
      exact h y hy
    · rw [if_neg e] at ey
      subst ey
      exact h y hy
  · rcases List.mem_append.mp hx with z | z
    · exact h x z
    · have : x = (k, b, v) := List.mem_singleton.mp z
      subst this
      exact q
end
end Lw

/-! min and max with key=lambda x: x[0], over a list of tuples that begin with ints. -/
namespace Lw
open PySem PySem.Spec PyProof.Rows L2 LamX
/-- the lambda called -/
theorem lam_raw {prog : Program} {w : World} {A : Around} {E : Value → Shared → Prop} {s : Shared} {Q : Value → Shared → Prop} {f c' a : Addr} {qual : Str} {params : Arguments} {scope : Scope} {pm ctv : Value} {x : Str} {p1 p2 p3 : Pos} {j : Nat} {its : List Value} {n : Int} {t : Tok}
    (hroom : A.depth < recursionLimit) (hf : s.heap.get? f = some (PySem.W.kla_obj "<lambda>" qual params (.Subscript (.Name x p1) (.Constant (.int 0) j p2) p3) scope [] pm c' ctv)) (hco : scope.isCoroutine = false) (hgen : scope.isGenerator = false) (hk : scope.kind = .function)
    (hcd : s.heap.CodeRec (.ref c') qual) (hb : ∀ v, bindArgs (PySem.W.kla_fn "<lambda>" qual params (.Subscript (.Name x p1) (.Constant (.int 0) j p2) p3) scope [] pm (.ref c') ctv) ⟨[v], []⟩ = pure [(x, v)]) (hx : scope.names.lookup x = some .local) (hcell : ∀ y ∈ scope.names, y.2 ≠ .cell)
    (hd : (x == ("__debug__" : Str)) = false) (hl : s.heap.NoLimit) (ht : IsTup s.heap a (Value.int n t :: its).toArray)
    (h : ∀ h' tk, (∀ b o, s.heap.get? b = some o → h'.get? b = some o) → Q (.int n t) { s with heap := h', toks := tk }) : wpAny (model prog w) A (call (.ref f) [.ref a]) Q E s := by
  refine wpAny_call (PySem.W.kla_callFunE hroom hf rfl hco hgen rfl hcd ?_)
  rw [hb]
  refine wpAny_pure (wpAny_newFunctionEnv hcell (fun y hy => ?_) (fun h₁ hns hsb => ⟨hl.fresh _ hsb, ?_⟩) hk)
  · rw [List.mem_singleton.mp hy]
    exact hx
  have kp : ∀ b o, s.heap.get? b = some o → h₁.get? b = some o := fun b o e => hsb.extBut b o (Nat.ne_of_lt (Heap.lt_size e)) (Heap.get?_push_of_some _ e)
  have ht' : IsTup h₁ a (Value.int n t :: its).toArray := ht.keeps kp
  refine PySem.W.kla_codeExpr (Subscript_Constant (wpAny_Name (wpAny_loadName_local hk hx hns (m := fun y => ([(x, Value.ref a)] : List (Str × Value)).reverse.lookup y) (v := .ref a) ?_ (wpAny_Constant_int ⟨"tuple", _, slot_tuple_getitem.lookup, ht'.typeIs, ?_⟩)) hd))
  · show ([(x, Value.ref a)] : List (Str × Value)).lookup x = _
    simp
  · exact PyProof.Rows.getItem_tuple (j := 0) ht' (by decide) (by decide) (by unfold seqIndex?; simp) (by simp) (h h₁ _ kp)
/-- the state only grows -/
structure Grows (s0 s : Shared) : Prop where
  heap : ∀ b o, s0.heap.get? b = some o → s.heap.get? b = some o
  gens : s.gens = s0.gens
  drawn : s.drawn = s0.drawn
  os : s.os = s0.os
theorem Grows.eq {s0 s : Shared} (g : Grows s0 s) : s = { s0 with heap := s.heap, toks := s.toks } := by
  obtain ⟨h, g1, d, t, os⟩ := s
  obtain ⟨_, h1, h2, h3⟩ := g
  simp only at h1 h2 h3
  subst h1 h2 h3
  rfl
section
variable {prog : Program} {w : World} {A : Around} {E : Value → Shared → Prop} {s : Shared} {Q : Value → Shared → Prop}
/-- what the keys' run is, for both -/
theorem key_run {op : CmpOp} {bt : Int → Int → Bool} (hop : ∀ (num : Nat → Int) (A : Around), CmpOf prog w A op (fun i v => ∃ t, v = .int (num i) t) (fun i j => bt (num i) (num j))) {f c' l : Addr} {qual : Str} {params : Arguments} {scope : Scope} {pm ctv : Value} {x : Str} {p1 p2 p3 : Pos} {j : Nat} {its : List Value} {num : Nat → Int}
    (hroom : A.depth < recursionLimit) (hh : A.handled = none) (hf : s.heap.get? f = some (PySem.W.kla_obj "<lambda>" qual params (.Subscript (.Name x p1) (.Constant (.int 0) j p2) p3) scope [] pm c' ctv)) (hco : scope.isCoroutine = false) (hgen : scope.isGenerator = false) (hk : scope.kind = .function)
    (hcd : s.heap.CodeRec (.ref c') qual) (hb : ∀ v, bindArgs (PySem.W.kla_fn "<lambda>" qual params (.Subscript (.Name x p1) (.Constant (.int 0) j p2) p3) scope [] pm (.ref c') ctv) ⟨[v], []⟩ = pure [(x, v)]) (hx : scope.names.lookup x = some .local) (hcell : ∀ y ∈ scope.names, y.2 ≠ .cell)
    (hd : (x == ("__debug__" : Str)) = false) (hl : s.heap.NoLimit) (hil : s.heap.IsList l its.toArray) (hits : ∀ (i : Nat) (v : Value), its[i]? = some v → ∃ a t r, v = .ref a ∧ IsTup s.heap a (Value.int (num i) t :: r).toArray) (hn : 0 < its.length)
    {s₂ : Shared} (hs₂ : s₂ = { s with heap := s.heap.push { cls := .type "list_iterator", data := .fields #[.ref l, .int 0 0] } }) :
    KeyRun prog w A (.ref f) op s₂.heap.objs.size [s.heap.objs.size] (fun a b => b = a) its.toArray.size (fun i v => its.toArray[i]? = some v) (fun i s' => s'.heap.IsListIter s.heap.objs.size l i ∧ s'.heap.IsList l its.toArray) (fun s' => Grows s s')
      (fun i v _ => ∃ t, v = .int (num i) t) (fun i j => bt (num i) (num j)) where
  keep := fun s1 s2 g m => by
    refine ⟨fun b o e => m.heap b o (fun z => ?_) (g.heap b o e), (show s2.gens = s1.gens from m.gens).trans g.gens, m.drawn.trans g.drawn, m.os.trans g.os⟩
    have hlt := Heap.lt_size e
    have sz : s₂.heap.objs.size = s.heap.objs.size + 1 := by rw [hs₂]; exact Heap.size_push _ _
    rcases List.mem_cons.mp z with z | z
    · rw [z, sz] at hlt
      exact absurd hlt (Nat.not_lt.mpr (Nat.le_succ _))
    · rw [List.mem_singleton.mp z] at hlt
      exact Nat.lt_irrefl _ hlt
  keepV := fun _ _ _ _ h _ => h
  turn := fun i v s1 o Q1 E1 hi hP g hst hS hq => by
    have hP : its[i]? = some v := by simpa using hP
    obtain ⟨a, t, r, rfl, ht⟩ := hits i v hP
    refine lam_raw hroom (g.heap _ _ hf) hco hgen hk (hcd.keeps g.heap) hb hx hcell hd (hl.keeps g.heap) (ht.keeps g.heap) fun h' tk kp => hq _ _ ⟨fun b o e => kp _ _ (g.heap _ _ e), g.gens, g.drawn, g.os⟩ ⟨hst.1.at fun o e => kp _ _ e, hst.2.at fun o e => kp _ _ e⟩ (kp _ _ hS) ⟨t, rfl⟩ fun _ _ h => h
  cmp := fun i j ki kj s1 Q1 E1 _ hi hj hq => hop num A i j ki kj s1 Q1 E1 hi hj hq
end
/-- the lambda's own names: its parameter x alone -/
structure LamOne (params : Arguments) (body : Expr) (scope : Scope) (x : Str) : Prop where
  kind : scope.kind = .function
  co : scope.isCoroutine = false
  gen : scope.isGenerator = false
  nm : scope.names = [(x, .local)]
  hd : (x == ("__debug__" : Str)) = false
  dfl : ∀ env : Env, defaultsOf params env = ([], [])
  bind : ∀ (q : Str) (pm cv ctv v : Value), bindArgs (PySem.W.kla_fn "<lambda>" q params body scope [] pm cv ctv) ⟨[v], []⟩ = pure [(x, v)]
/-- min(xs, key=..), max(xs, key=..): the item a with the best key -/
def tKey (T : List (Addr × Str)) (better : Int → Int → Prop) (t : TA) : TE := fun σ H Q => t σ H fun vs H1 => ∃ (l : Addr) (items : List Addr) (num : Nat → Int), vs = [.ref l] ∧ H1 l = some (.lst (items.map V.ref)) ∧ 0 < items.length ∧
  (∀ i a, items[i]? = some a → ∃ r, H1 a = some (.tup (.int (num i) :: r))) ∧ Tabs T H1 ∧ ∀ H2, ExtN H1 H2 → Tabs T H2 → ∀ i a, items[i]? = some a → (∀ j, j < items.length → better (num i) (num j)) → Q (.ref a) H2
section
variable {X : Cx} {k : Nat} {c P : Addr} {T : List (Addr × Str)} {x y : Str} {e : Expr} {t : TA} {params : Arguments} {scope : Scope} {p p1 p2 p3 lpos kpos pos : Pos} {j : Nat}
theorem its_refs : ∀ {items : List Addr} {its : List Value}, Vals (items.map V.ref) its → its = items.map Value.ref
  | [], _, r => by
    cases r
    rfl
  | a :: as, _, r => by
    cases r with
    | cons r1 r2 =>
      rw [its_refs r2]
      cases r1
      rfl
/-- both: what the call of the built-in asks -/
theorem pe_key {id : String} {better : Int → Int → Prop} (TB : TabB X.base X.mg c P) (hcode : X.env.code = .ref c) (hmT : (P, X.env.qual ++ "<lambda>") ∈ T) (hu : ∀ p ∈ T, p.1 = P → p.2 = X.env.qual ++ "<lambda>") (hr : Room (k + 1) X.A)
    (L : LamOne params (.Subscript (.Name x p1) (.Constant (.int 0) j p2) p3) scope x) (hg : Gl X y) (hm : X.mg y = none) (hv : bootBuiltins y = some (.builtin id)) (ha : PA X [e] t)
    (hcall : ∀ {s : Shared} {E : Value → Shared → Prop} {Q : Value → Shared → Prop} {f c' l : Addr} {qual : Str} {pm ctv : Value} {its : List Value} {num : Nat → Int}, s.heap.get? f = some (PySem.W.kla_obj "<lambda>" qual params (.Subscript (.Name x p1) (.Constant (.int 0) j p2) p3) scope [] pm c' ctv) →
      s.heap.CodeRec (.ref c') qual → s.heap.NoLimit → s.heap.IsList l its.toArray → (∀ (i : Nat) (v : Value), its[i]? = some v → ∃ a t r, v = .ref a ∧ IsTup s.heap a (Value.int (num i) t :: r).toArray) → 0 < its.length →
      (∀ i v s', its[i]? = some v → (∀ j, j < its.length → better (num i) (num j)) → Grows s s' → Q v s') → wpAny (model X.prog X.w) X.A (call (.builtin id) [.ref l] [(Str.ofString "key", .ref f)]) Q E s)
    (hn : y ≠ "__name__" := by decide) (hdb : (y == ("__debug__" : Str)) = false := by decide)
    (he : backTo pos (starEach [e] X.env) = (false, eval e X.env) :: backTo pos (starEach [] X.env) := by rfl) (hpl : (backTo pos (starEach [e] X.env)).any (·.1) = false := by rfl) :
    PE X (.Call (.Name y p) [e] [⟨some "key", .Lambda params (.Subscript (.Name x p1) (.Constant (.int 0) j p2) p3) scope lpos, kpos⟩] pos) (tKey T better t) := by
  refine ⟨fun pins s σ H Q I h => ?_⟩
  refine wpAny_Call_Name_kw (ld_blt I hg hm hv ?_ hn hdb)
  refine PyProof.Rows.callWith_kw (thn (ha.run pos pins s σ H _ I h) fun us s1 ⟨vs, H1, I1, r1, l, items, num, ev, hl, hne, hit, hT, q⟩ => ?_) he hpl rfl rfl
  subst ev
  refine PyProof.Rows.kws_cons (lam_make2 I1 TB hcode hmT hu hT (L.dfl _) (fun y hy e => ?_) fun f c' pm ctv H2 s2 I2 eN T2 hf hfn hfr hco => PyProof.Rows.kws_nil ?_)
  · rw [L.nm] at hy
    rw [List.mem_singleton.mp hy] at e
    cases e
  rw [Vals.ref1 r1]
  have hcl : cloFrom X.env.cells scope.names [] = [] := by
    rw [L.nm]
    rfl
  rw [hcl] at hf
  obtain ⟨⟨oc, vs', tt, hoc, hdc, hvc⟩, _, _⟩ := I2.hok c' _ hco
  have hl2 : H2 l = some (.lst (items.map V.ref)) := eN _ _ hl (fun _ z => nomatch z)
  obtain ⟨its, rv, hL, _⟩ := I2.list (SqL.of hl2 : SqL X.K H2 l _)
  have ei := its_refs rv
  refine hcall (num := num) hf ⟨c', oc, vs', tt, rfl, hoc, hdc, hvc⟩ I2.nolimit hL.isList (fun i v hv => ?_) (by rw [ei, List.length_map]; exact hne) fun i v s' hv hb g => ?_
  · rw [ei, List.getElem?_map] at hv
    obtain ⟨a, ea, rfl⟩ := Option.map_eq_some_iff.mp hv
    obtain ⟨r, hr⟩ := hit i a ea
    obtain ⟨_, ts, rt, p⟩ := (show ObjOk X.prog X.w H2 s2.heap a (.tup (.int (num i) :: r)) from I2.hok a _ (eN _ _ hr (fun _ z => nomatch z)))
    cases rt with
    | cons q1 q2 =>
      obtain ⟨t, rfl⟩ := q1
      exact ⟨a, t, _, rfl, p⟩
  · rw [ei, List.getElem?_map] at hv
    obtain ⟨a, ea, rfl⟩ := Option.map_eq_some_iff.mp hv
    rw [g.eq]
    exact ⟨.ref a, H2, I2.kept g.heap, rfl, q H2 eN T2 i a ea fun j hj => hb j (by rw [ei, List.length_map]; exact hj)⟩
theorem pe_minKey (TB : TabB X.base X.mg c P) (hcode : X.env.code = .ref c) (hmT : (P, X.env.qual ++ "<lambda>") ∈ T) (hu : ∀ p ∈ T, p.1 = P → p.2 = X.env.qual ++ "<lambda>") (hr : Room (k + 1) X.A)
    (L : LamOne params (.Subscript (.Name x p1) (.Constant (.int 0) j p2) p3) scope x) (hg : Gl X "min") (hm : X.mg "min" = none) (ha : PA X [e] t)
    (he : backTo pos (starEach [e] X.env) = (false, eval e X.env) :: backTo pos (starEach [] X.env) := by rfl) (hpl : (backTo pos (starEach [e] X.env)).any (·.1) = false := by rfl) :
    PE X (.Call (.Name "min" p) [e] [⟨some "key", .Lambda params (.Subscript (.Name x p1) (.Constant (.int 0) j p2) p3) scope lpos, kpos⟩] pos) (tKey T (fun a b => a ≤ b) t) := by
  refine pe_key (id := "min") TB hcode hmT hu hr L hg hm (by decide +kernel) ha (fun {s E Q f c' l qual pm ctv its num} hf hcd hl hil hits hn h => ?_) (by decide) (by decide) he hpl
  refine call_min_walkK (wpAny_pyIter_list hil ?_)
  have hne : l ≠ s.heap.objs.size := by
    obtain ⟨o, ho, _⟩ := hil
    exact Nat.ne_of_lt (Heap.lt_size ho)
  have sz : (s.heap.push { cls := .type "list_iterator", data := .fields #[.ref l, .int 0 0] }).objs.size = s.heap.objs.size + 1 := Heap.size_push _ _
  refine ⟨s.heap.objs.size, _, _, _, its.toArray.size, _, _, _, _, _, rfl, (Walks.list (A := X.A.in1) hr.in1.hd s.heap.objs.size l hne its.toArray).toS, ⟨⟨_, Heap.get?_push_size _ rfl, rfl, rfl⟩, hil.push _⟩, fun b hb => ?_, by rw [List.size_toArray]; exact hn,
    key_run (op := .Lt) (bt := fun a b => decide (a < b)) (fun num A => CmpOf.ints_lt num fun i v h => h) hr.in1.depth hr.in1.hd hf L.co L.gen L.kind hcd (fun v => L.bind _ _ _ _ _) (by rw [L.nm]; simp) (fun y hy => by rw [L.nm] at hy; rw [List.mem_singleton.mp hy]; exact fun z => nomatch z) L.hd hl hil hits hn rfl, ⟨fun b o e => Heap.get?_push_of_some _ e, rfl, rfl, rfl⟩, fun v s' hP g => ?_⟩
  · show b < (s.heap.push _).objs.size
    rw [sz]
    rcases List.mem_cons.mp hb with e | e
    · rw [e]
      exact Nat.lt_succ_self _
    · rw [List.mem_singleton.mp e]
      obtain ⟨o, ho, _⟩ := hil
      exact Nat.lt_succ_of_lt (Heap.lt_size ho)
  · obtain ⟨b1, b2⟩ := argBest_lt num (its.toArray.size - 1)
    rw [List.size_toArray] at b1 b2 hP
    exact h _ v s' (by simpa using hP) (fun j hj => b2 j (by omega)) g
theorem pe_maxKey (TB : TabB X.base X.mg c P) (hcode : X.env.code = .ref c) (hmT : (P, X.env.qual ++ "<lambda>") ∈ T) (hu : ∀ p ∈ T, p.1 = P → p.2 = X.env.qual ++ "<lambda>") (hr : Room (k + 1) X.A)
    (L : LamOne params (.Subscript (.Name x p1) (.Constant (.int 0) j p2) p3) scope x) (hg : Gl X "max") (hm : X.mg "max" = none) (ha : PA X [e] t)
    (he : backTo pos (starEach [e] X.env) = (false, eval e X.env) :: backTo pos (starEach [] X.env) := by rfl) (hpl : (backTo pos (starEach [e] X.env)).any (·.1) = false := by rfl) :
    PE X (.Call (.Name "max" p) [e] [⟨some "key", .Lambda params (.Subscript (.Name x p1) (.Constant (.int 0) j p2) p3) scope lpos, kpos⟩] pos) (tKey T (fun a b => b ≤ a) t) := by
  refine pe_key (id := "max") TB hcode hmT hu hr L hg hm (by decide +kernel) ha (fun {s E Q f c' l qual pm ctv its num} hf hcd hl hil hits hn h => ?_) (by decide) (by decide) he hpl
  refine call_max_walkK (wpAny_pyIter_list hil ?_)
  have hne : l ≠ s.heap.objs.size := by
    obtain ⟨o, ho, _⟩ := hil
    exact Nat.ne_of_lt (Heap.lt_size ho)
  have sz : (s.heap.push { cls := .type "list_iterator", data := .fields #[.ref l, .int 0 0] }).objs.size = s.heap.objs.size + 1 := Heap.size_push _ _
  refine ⟨s.heap.objs.size, _, _, _, its.toArray.size, _, _, _, _, _, rfl, (Walks.list (A := X.A.in1) hr.in1.hd s.heap.objs.size l hne its.toArray).toS, ⟨⟨_, Heap.get?_push_size _ rfl, rfl, rfl⟩, hil.push _⟩, fun b hb => ?_, by rw [List.size_toArray]; exact hn,
    key_run (op := .Gt) (bt := fun a b => decide (a > b)) (fun num A => CmpOf.ints_gt num fun i v h => h) hr.in1.depth hr.in1.hd hf L.co L.gen L.kind hcd (fun v => L.bind _ _ _ _ _) (by rw [L.nm]; simp) (fun y hy => by rw [L.nm] at hy; rw [List.mem_singleton.mp hy]; exact fun z => nomatch z) L.hd hl hil hits hn rfl, ⟨fun b o e => Heap.get?_push_of_some _ e, rfl, rfl, rfl⟩, fun v s' hP g => ?_⟩
  · show b < (s.heap.push _).objs.size
    rw [sz]
    rcases List.mem_cons.mp hb with e | e
    · rw [e]
      exact Nat.lt_succ_self _
    · rw [List.mem_singleton.mp e]
      obtain ⟨o, ho, _⟩ := hil
      exact Nat.lt_succ_of_lt (Heap.lt_size ho)
  · obtain ⟨b1, b2⟩ := argBest_gt num (its.toArray.size - 1)
    rw [List.size_toArray] at b1 b2 hP
    exact h _ v s' (by simpa using hP) (fun j hj => b2 j (by omega)) g
end
end Lw

namespace Lw
open PySem PySem.Spec PyProof.Rows L2
section
variable {P : Program} {w : World} {K : PySem.W.Frag} {mg : Str → Option Value} {base : Heap}
def spIsInt : Sp := fun vs H Q _ => ∃ i : Int, vs = [.int i] ∧ Q (.bl true) H
theorem c_is_integer (T : Txt K mg) : Con P w K mg base 1 (He.ga K "is_integer") ["value"] [] spIsInt := by
  refine con_of T.d_in_integer rfl rfl sc_in_integer (fun _ _ _ _ _ _ us hl => match us, hl with | [_], _ => rfl) (fun vs H Q E h => ?_) (fun cdv A outer s H vs Q E hr h => ?_)
  · obtain ⟨i, rfl, _⟩ := h
    rfl
  · obtain ⟨i, rfl, q⟩ := h
    refine ⟨_, pss_one (ps_ret (pe_and (bi call_isi T.f_isinstance (pa_cons (pv 0) (pa_cons (tyv (n := "int") T.f_int) pa_nil)))
      (pe_one (pe_not (bi call_isi T.f_isinstance (pa_cons (pv 0) (pa_cons (tyv (n := "bool") T.f_bool) pa_nil))))))), ?_⟩
    refine ⟨_, rfl, _, _, _, _, true, rfl, .ty "int", .base (.int i), kit_ty (by decide +kernel), true, rfl, iteT ?_⟩
    exact ⟨_, rfl, _, _, _, _, false, rfl, .ty "bool", .base (.int i), kit_ty (by decide +kernel), false, rfl, q⟩
def spRange : Sp := fun vs H Q _ => ∃ v l m : Int, vs = [.int v, .int l, .int m] ∧ Q (.bl (decide (l ≤ v ∧ v ≤ m))) H
theorem c_in_range (T : Txt K mg) : Con P w K mg base 2 (He.ga K "in_range") ["value", "least", "most"] [] spRange := by
  refine con_of T.d_in_range rfl rfl sc_in_range (fun _ _ _ _ _ _ us hl => match us, hl with | [_, _, _], _ => rfl) (fun vs H Q E h => ?_) (fun cdv A outer s H vs Q E hr h => ?_)
  · obtain ⟨v, l, m, rfl, _⟩ := h
    rfl
  · obtain ⟨v, l, m, rfl, q⟩ := h
    refine ⟨_, pss_one (ps_ret (pe_and (call_c (c_is_integer T) hr T.g_is_integer (pa_cons (pv 0) pa_nil)) (pe_one (pe_chain op_le op_le (pv 1) (pv 0) (pv 2))))), ?_⟩
    refine ⟨_, rfl, v, rfl, true, rfl, iteT ?_⟩
    refine ⟨_, rfl, _, rfl, _, _, rfl, rfl, _, rfl, ?_⟩
    by_cases h1 : l ≤ v
    · rw [decide_eq_true h1]
      refine iteT ⟨_, rfl, _, _, rfl, rfl, ?_⟩
      have e : decide (l ≤ v ∧ v ≤ m) = decide (v ≤ m) := by simp [h1]
      rw [e] at q
      exact q
    · rw [decide_eq_false h1]
      have e : decide (l ≤ v ∧ v ≤ m) = false := by simp [h1]
      rw [e] at q
      exact iteF q
end
end Lw

namespace Lw
open PySem PySem.Spec PyProof.Rows L2
open LW (Hold Mode Pol Cfg Write Side Scene Parts Way Rule)
section
variable {P : Program} {w : World} {K : PySem.W.Frag} {mg : Str → Option Value} {base : Heap}
structure PolOk (p : Pol) : Prop where
  e0 : 0 ≤ p.every
  e9 : p.every ≤ 9
  q0 : 0 ≤ p.quick
  q4 : p.quick ≤ 4
/-- Policy.__init__: the instance gets its three values -/
def spPol (K : PySem.W.Frag) : Sp := fun vs H Q _ => ∃ (x dx : Addr) (p : Pol), vs = [.ref x, .str (hV p.hold), .int p.every, .int p.quick] ∧ PolOk p ∧ H x = some (.ins (He.ga K "Policy") dx []) ∧
  Q .non (upd H x (.ins (He.ga K "Policy") dx (f_Policy (hV p.hold) p.every p.quick)))
theorem hV_in (h : Hold) : inV (.str (hV h)) [.str "off", .str "partial", .str "all"] = true := by cases h <;> decide +kernel
theorem b_Policy (T : Txt K mg) : BodyQ P w K mg base 2 N_Policy_init d_Policy_init (spPol K) := by
  intro cdv A outer s H vs Q E hr h
  obtain ⟨x, dx, p, rfl, ok, hx, q⟩ := h
  obtain ⟨t1, g1⟩ := T.i_MOST_EVERY
  obtain ⟨t2, g2⟩ := T.i_MOST_QUICK
  obtain ⟨mc, TT, cr, cv, hT⟩ := T.holds
  have nd := sc_Policy_init.nd
  refine ⟨_, pss_cons (ps_if (PW.pt (pw_or (pt_not (pt_val (bi call_isi T.f_isinstance (pa_cons (pv 1) (pa_cons (tyv (n := "str") T.f_str) pa_nil))))) (pw_or1 (pt_cmpR op_notIn_seq (pv 1) (ClX.pe_cval (gref T.g_Policy)) rfl)))) pss_never pss_nil)
    (pss_cons (ps_if (pt_not (pt_val (call_c (c_in_range T) hr T.g_in_range (pa_cons (pv 2) (pa_cons pe_int (pa_cons (gint g1) pa_nil)))))) pss_never pss_nil)
    (pss_cons (ps_if (pt_not (pt_val (call_c (c_in_range T) hr T.g_in_range (pa_cons (pv 3) (pa_cons pe_int (pa_cons (gint g2) pa_nil)))))) pss_never pss_nil)
    (pss_cons (ps_fld (pv 0) (pv 1) rfl) (pss_cons (ps_fld (pv 0) (pv 2) rfl) (pss_one (ps_fld (pv 0) (pv 3) rfl)))))), ?_⟩
  refine ⟨_, rfl, _, _, _, _, true, rfl, .ty "str", .base (.str _), kit_ty (by decide +kernel), true, rfl, iteF ?_⟩
  refine ⟨_, rfl, _, mc, _, _, rfl, cr, cv, _, _, rfl, .inr (hT H), rfl, rfl, _, rfl, ?_⟩
  show if (!inV (.str (hV p.hold)) [.str "off", .str "partial", .str "all"]) = true then _ else _
  rw [hV_in]
  refine iteF ⟨_, rfl, p.every, 0, 9, rfl, _, rfl, ?_⟩
  rw [decide_eq_true (show (0 : Int) ≤ p.every ∧ p.every ≤ 9 from ⟨ok.e0, ok.e9⟩)]
  refine iteF ⟨_, rfl, p.quick, 0, 4, rfl, _, rfl, ?_⟩
  rw [decide_eq_true (show (0 : Int) ≤ p.quick ∧ p.quick ≤ 4 from ⟨ok.q0, ok.q4⟩)]
  refine iteF ⟨_, rfl, _, rfl, x, _, dx, [], rfl, hx, T.c_Policy, T.n_Policy_hold, by decide, ?_⟩
  refine ⟨_, rfl, _, rfl, x, _, dx, _, rfl, upd_same, T.c_Policy, T.n_Policy_every, (by show 1 < 1000; decide), ?_⟩
  refine ⟨_, rfl, _, rfl, x, _, dx, _, rfl, upd_same, T.c_Policy, T.n_Policy_quick, (by show 2 < 1000; decide), ?_⟩
  rw [upd_upd, upd_upd]
  show Q .non (upd H x (.ins (He.ga K "Policy") dx (putF "quick" (.int p.quick) (putF "every" (.int p.every) (putF "hold" (.str (hV p.hold)) [])))))
  rw [mk_Policy]
  exact q
end
end Lw

namespace Lw
open PySem PySem.Spec PyProof.Rows L2
open LW (Hold Mode Pol Cfg Write Side Scene Parts Way Rule)
section
variable {P : Program} {w : World} {K : PySem.W.Frag} {mg : Str → Option Value} {base : Heap}
theorem len_Policy {vs : List V} {H : Hp} {Q : VK} {E : XK} (h : spPol K vs H Q E) : vs.length = ["self", "hold", "every", "quick"].length := by
  obtain ⟨x, dx, p, rfl, _⟩ := h
  rfl
/-- Policy() with no argument -/
theorem c_Policy0 (T : Txt K mg) : Con P w K mg base 3 (He.ma K (He.ga K "Policy") "__init__") ["self", "hold", "every", "quick"] [.str "all", .int 2, .int 0] (spPol K) := by
  obtain ⟨fd, F⟩ := T.d_Policy_init
  have G : FnOk P w K mg base CX0 3 (d_Policy_init.adr K) fd ["self", "hold", "every", "quick"] (spPol K) := fnok_of F sc_Policy_init (fun _ _ _ _ h => len_Policy h) (b_Policy T)
  obtain ⟨ds, r, b⟩ := FunD.binds (ps := ["self", "hold", "every", "quick"]) F 1 0 (fun z => nomatch z) rfl (fun Td D doc pm an cdv ct us its ks h1 h2 h3 => match us, its, ks, h1, h2, h3 with
    | [a], [b], [c, d], _, _, _ => ⟨_, rfl, ⟨_, _, _, _, _, _, rfl, rfl, ⟨_, _, _, _, _, _, rfl, rfl, rfl⟩⟩⟩) (fun z => nomatch z)
  exact ⟨fd, ds, G, r, b, F.kp⟩
def gPol {α : Type} (us ds mv ws : List α) : List α := us ++ ws
/-- Policy(hold, every = .., quick = ..) -/
theorem c_PolicyK (T : Txt K mg) : ∃ (fd : FuncData) (its mv : List Value), FnOk P w K mg base CX0 3 (He.ma K (He.ga K "Policy") "__init__") fd ["self", "hold", "every", "quick"] (spPol K) ∧
    KBn K fd ["self", "hold", "every", "quick"] 2 ["every", "quick"] (fun us ws => us ++ ws) (fun vs zs => vs ++ zs) := by
  obtain ⟨fd, F⟩ := T.d_Policy_init
  have G : FnOk P w K mg base CX0 3 (d_Policy_init.adr K) fd ["self", "hold", "every", "quick"] (spPol K) := fnok_of F sc_Policy_init (fun _ _ _ _ h => len_Policy h) (b_Policy T)
  obtain ⟨its, mv, b⟩ := FunD.kbinds (ps := ["self", "hold", "every", "quick"]) F 2 ["every", "quick"] [] (fun us ds mv ws => us ++ ws) (fun z => nomatch z) (fun z => nomatch z) (fun _ h => nomatch h) (fun r _ _ z => r.append z)
    (fun Td D doc pm an cdv ct us its mv ws h1 h2 h3 h4 => match us, its, mv, ws, h1, h2, h3, h4 with
    | [a, a'], [b], [], [c, d], _, _, _, _ => ⟨_, rfl, rfl⟩)
  exact ⟨fd, its, mv, G, b⟩
end
end Lw

namespace Lw
open PySem PySem.Spec PyProof.Rows L2
open LW (Hold Mode Pol Cfg Write Side Scene Parts Way Rule)
section
variable {P : Program} {w : World} {K : PySem.W.Frag} {mg : Str → Option Value} {base : Heap}
def polD : Pol := ⟨.all, 2, 0⟩
theorem polD_ok : PolOk polD := ⟨by decide, by decide, by decide, by decide⟩
/-- Setting.__init__, the policies in a tuple: two of them, or none -/
def spSet (K : PySem.W.Frag) : Sp := fun vs H Q _ => ∃ (x dx tp : Addr) (c : Cfg) (ps : List Addr), vs = [.ref x, .int c.size, .ref tp] ∧ H x = some (.ins (He.ga K "Setting") dx []) ∧ H tp = some (.tup (ps.map V.ref)) ∧ 1 ≤ c.size ∧ c.size ≤ 10 ^ 18 ∧
  ((∃ p0 p1, ps = [p0, p1] ∧ PolAt K H p0 c.p0 ∧ PolAt K H p1 c.p1) ∨ (ps = [] ∧ c.p0 = polD ∧ c.p1 = polD)) ∧
  ∀ H', (∀ b o, H b = some o → b ≠ x → H' b = some o) → SetAt K H' x c → Q .non H'
theorem b_Setting (T : Txt K mg) : BodyQ P w K mg base 4 N_Setting_init d_Setting_init (spSet K) := by
  intro cdv A outer s H vs Q E hr h
  obtain ⟨x, dx, tp, c, ps, rfl, hx, htp, c1, c2, hps, q⟩ := h
  obtain ⟨t1, g1⟩ := T.i_MOST_SIZE
  have nd := sc_Setting_init.nd
  have MP := T.m_Policy
  have CP := c_Policy0 (P := P) (w := w) (base := base) T
  have len2 : ps.length ≤ 2 := by
    rcases hps with ⟨p0, p1, rfl, _⟩ | ⟨rfl, _⟩ <;> simp
  have isPol : ∀ p ∈ ps, ∃ pol, PolAt K H p pol := by
    intro p hp
    rcases hps with ⟨p0, p1, rfl, h0, h1⟩ | ⟨rfl, _⟩
    · rcases List.mem_cons.mp hp with e | hp
      · exact ⟨_, e ▸ h0⟩
      · rw [List.mem_singleton.mp hp]
        exact ⟨_, h1⟩
    · cases hp
  refine ⟨_, pss_cons (ps_if (pt_not (pt_val (call_c (c_in_range T) (hr.mono (by decide)) T.g_in_range (pa_cons (pv 1) (pa_cons pe_int (pa_cons (gint g1) pa_nil)))))) pss_never pss_nil)
    (pss_cons (ps_if (PW.pt (pw_or (pt_cmpR op_gt (bi call_len_seq T.f_len (pa_cons (pv 2) pa_nil)) pe_int (nomark _))
        (pw_or1 (pt_not (pt_val (bi (cr_all rfl) T.f_all (pa_cons (pe_lc (own := [("policy", 4)]) (g := gName 4) (tt := tYes) rfl nd (pi_tup (pv 2)) (blkOk_by (N := N_Setting_init) (sc := defScope st_Setting_init) (by decide +kernel))
          (fun _ _ _ _ _ => gn 4 nd) (fun _ _ _ _ _ => pts_nil) (fun _ _ _ _ _ => bi (id := "isinstance") (r := rIsi K) call_isi T.f_isinstance (pa_cons (pv 4) (pa_cons (gref T.g_Policy) pa_nil)))) pa_nil))))))) pss_never pss_nil)
    (pss_cons (ss 3 nd (pe_lst (StX.pa_star (pv 2) (StX.pa_star (pv 2) (pa_cons (make_c0 MP CP hr T.g_Policy) (pa_cons (make_c0 MP CP hr T.g_Policy) pa_nil))))))
    (pss_cons (ps_fld (pv 0) (pv 1) rfl)
    (pss_one (ps_fld (pv 0) (pe_tup (pa_cons (pe_ix ix_list (pv 3) pe_int (fun _ _ => rfl)) (pa_cons (pe_ix ix_list (pv 3) pe_int (fun _ _ => rfl)) pa_nil))) rfl))))), ?_⟩
  -- if not in_range(size, 1, MOST_SIZE)
  refine ⟨_, rfl, c.size, 1, 10 ^ 18, rfl, _, rfl, ?_⟩
  rw [decide_eq_true (show (1 : Int) ≤ c.size ∧ c.size ≤ 10 ^ 18 from ⟨c1, c2⟩)]
  refine iteF ?_
  -- if len(policies) > 2 or not all([..])
  refine ⟨_, rfl, tp, _, rfl, .inr (SqT.of htp), _, _, rfl, rfl, _, rfl, ?_⟩
  have l2 : ¬ ((2 : Int) < ((ps.map V.ref).length : Int)) := by
    rw [List.length_map]
    omega
  rw [decide_eq_false l2]
  refine iteF ⟨_, rfl, tp, rfl, ⟨_, SqT.of htp⟩, fun D hD => ?_⟩
  have sD : ∀ (l : List V), Same H (upd H D (.lst l)) := fun l => same_new (Same.refl H) hD
  refine lc_tup (K := K) (xs := ps.map V.ref) (fun i H' => H' = upd H D (.lst ((List.replicate i true).map V.bl))) rfl (fun i H' _ e => ?_) (fun i y H' hi e => ?_) (fun H' e => ?_)
  · rw [e]
    exact (sD _).tup (SqT.of htp)
  · subst e
    obtain ⟨p, hp, rfl⟩ : ∃ p, p ∈ ps ∧ y = V.ref p := by
      rw [List.getElem?_map] at hi
      cases e : ps[i]? with
      | none => rw [e] at hi; cases hi
      | some p =>
        rw [e] at hi
        exact ⟨p, List.mem_of_getElem? e, (Option.some.inj hi).symm⟩
    obtain ⟨pol, dp, hpl⟩ := isPol p hp
    have hil : i < ps.length := by
      have := (List.getElem?_eq_some_iff.mp hi).1
      rw [List.length_map] at this
      exact this
    refine ⟨rfl, ?_⟩
    refine iteT (B := False) ?_
    refine ⟨_, rfl, _, _, _, _, true, rfl, .own _, .base (.ins (sD _ _ _ hpl) T.c_Policy T.pcls T.pget T.ptak T.pmro), T.pol, ?_⟩
    refine ⟨_, upd_same, ?_, ?_⟩
    · rw [List.length_map, List.length_replicate]
      exact small1000 (by omega)
    · rw [upd_upd, List.replicate_succ', List.map_append]
      rfl
  · subst e
    refine ⟨D, List.replicate (ps.map V.ref).length true, rfl, SqL.of upd_same, _, rfl, ?_⟩
    have all : (List.replicate (ps.map V.ref).length true).all id = true := by
      rw [List.all_eq_true]
      intro b hb
      exact (List.mem_replicate.mp hb).2
    rw [all]
    refine iteF ?_
    -- both = [*policies, *policies, Policy(), Policy()]
    have s1 := sD ((List.replicate (ps.map V.ref).length true).map V.bl)
    generalize upd H D (.lst ((List.replicate (ps.map V.ref).length true).map V.bl)) = H1 at s1
    refine ⟨_, rfl, tp, _, rfl, .inl (s1.tup (SqT.of htp)), _, rfl, tp, _, rfl, .inl (s1.tup (SqT.of htp)), ?_⟩
    intro y1 dy1 n1 nd1 e1
    have s2 : Same H1 (upd (upd H1 dy1 (.own y1)) y1 (.ins (He.ga K "Policy") dy1 [])) := same_new (same_new (Same.refl _) nd1) (by rw [upd_ne (Ne.symm e1)]; exact n1)
    refine ⟨y1, dy1, polD, rfl, polD_ok, upd_same, rfl, ?_⟩
    rw [upd_upd]
    have s3 : Same H1 (upd (upd H1 dy1 (.own y1)) y1 (.ins (He.ga K "Policy") dy1 (f_Policy (hV polD.hold) polD.every polD.quick))) := same_new (same_new (Same.refl _) nd1) (by rw [upd_ne (Ne.symm e1)]; exact n1)
    have p3 : PolAt K (upd (upd H1 dy1 (.own y1)) y1 (.ins (He.ga K "Policy") dy1 (f_Policy (hV polD.hold) polD.every polD.quick))) y1 polD := ⟨dy1, upd_same⟩
    generalize upd (upd H1 dy1 (.own y1)) y1 (.ins (He.ga K "Policy") dy1 (f_Policy (hV polD.hold) polD.every polD.quick)) = H3 at s3 p3
    intro y2 dy2 n2 nd2 e2
    refine ⟨y2, dy2, polD, rfl, polD_ok, upd_same, rfl, ?_⟩
    rw [upd_upd]
    have s4 : Same H3 (upd (upd H3 dy2 (.own y2)) y2 (.ins (He.ga K "Policy") dy2 (f_Policy (hV polD.hold) polD.every polD.quick))) := same_new (same_new (Same.refl _) nd2) (by rw [upd_ne (Ne.symm e2)]; exact n2)
    have p4 : PolAt K (upd (upd H3 dy2 (.own y2)) y2 (.ins (He.ga K "Policy") dy2 (f_Policy (hV polD.hold) polD.every polD.quick))) y2 polD := ⟨dy2, upd_same⟩
    generalize upd (upd H3 dy2 (.own y2)) y2 (.ins (He.ga K "Policy") dy2 (f_Policy (hV polD.hold) polD.every polD.quick)) = H4 at s4 p4
    have s5 : Same H H4 := s1.trans (s3.trans s4)
    refine ⟨Nat.le_of_lt (small1000 (by simp; omega)), fun l hl => ?_⟩
    -- the first two
    obtain ⟨a0, a1, ea0, ea1, pa0, pa1⟩ : ∃ a0 a1, atI (ps.map V.ref ++ (ps.map V.ref ++ [V.ref y1, V.ref y2])) 0 = some (V.ref a0) ∧ atI (ps.map V.ref ++ (ps.map V.ref ++ [V.ref y1, V.ref y2])) 1 = some (V.ref a1) ∧ PolAt K H4 a0 c.p0 ∧ PolAt K H4 a1 c.p1 := by
      rcases hps with ⟨p0, p1, rfl, h0, h1⟩ | ⟨rfl, e0, e1⟩
      · exact ⟨p0, p1, atI_nat (j := 0) rfl, atI_nat (j := 1) rfl, h0.mono s5, h1.mono s5⟩
      · exact ⟨y1, y2, atI_nat (j := 0) rfl, atI_nat (j := 1) rfl, by rw [e0]; exact p3.mono s4, by rw [e1]; exact p4⟩
    have s6 : Same H4 (upd H4 l (.lst (ps.map V.ref ++ (ps.map V.ref ++ [V.ref y1, V.ref y2])))) := same_new (Same.refl _) hl
    have hl6 : (upd H4 l (.lst (ps.map V.ref ++ (ps.map V.ref ++ [V.ref y1, V.ref y2])))) l = some (.lst (ps.map V.ref ++ (ps.map V.ref ++ [V.ref y1, V.ref y2]))) := upd_same
    generalize upd H4 l (.lst (ps.map V.ref ++ (ps.map V.ref ++ [V.ref y1, V.ref y2]))) = H6 at s6 hl6
    have hx6 := (s5.trans s6) _ _ hx
    -- self.size = size; self.policies = (both[0], both[1])
    refine ⟨_, rfl, _, rfl, x, _, dx, [], rfl, hx6, T.c_Setting, T.n_Setting_size, by decide, ?_⟩
    have lne : l ≠ x := ne_of hl6 hx6 (by intro z; cases z)
    refine ⟨_, rfl, l, _, 0, _, rfl, rfl, SqL.of (by rw [upd_ne lne]; exact hl6), ea0, _, rfl, l, _, 1, _, rfl, rfl, SqL.of (by rw [upd_ne lne]; exact hl6), ea1, (by show 2 ≤ sizeLine; decide), fun t ht => ?_⟩
    obtain ⟨ht, htx⟩ := none_upd ht
    refine ⟨_, rfl, x, _, dx, _, rfl, by rw [upd_ne (Ne.symm htx)]; exact upd_same, T.c_Setting, T.n_Setting_policies, (by show 1 < 1000; decide), ?_⟩
    refine q _ (fun b o e hb => ?_) ⟨dx, t, a0, a1, ?_, ?_, ?_, ?_⟩
    · rw [upd_ne hb, upd_ne (ne_of_none ((s5.trans s6) _ _ e) ht), upd_ne hb]
      exact (s5.trans s6) _ _ e
    · rw [upd_same]
      exact congrArg (fun fs => some (HO.ins (He.ga K "Setting") dx fs)) mk_Setting
    · rw [upd_ne htx, upd_same]
    · obtain ⟨dp, pa0⟩ := pa0
      have pa0 := s6 _ _ pa0
      have hne : a0 ≠ x := ne_of pa0 hx6 (by intro z; injection z with _ _ z; exact absurd z (by intro z; cases z))
      exact ⟨dp, by rw [upd_ne hne, upd_ne (ne_of_none pa0 ht), upd_ne hne]; exact pa0⟩
    · obtain ⟨dp, pa1⟩ := pa1
      have pa1 := s6 _ _ pa1
      have hne : a1 ≠ x := ne_of pa1 hx6 (by intro z; injection z with _ _ z; exact absurd z (by intro z; cases z))
      exact ⟨dp, by rw [upd_ne hne, upd_ne (ne_of_none pa1 ht), upd_ne hne]; exact pa1⟩
/-- what a caller of Setting(size, ..) hands in: the size, then the policies -/
def spSetR (K : PySem.W.Frag) : Sp := fun vs H Q E => ∃ (ws rest : List V), vs = ws ++ rest ∧ ws.length = ["self", "size"].length ∧ rest.length ≤ sizeLine ∧ ∀ p, H p = Option.none → spSet K (ws ++ [V.ref p]) (upd H p (.tup rest)) Q E
theorem c_Setting (T : Txt K mg) : FnR P w K mg base CX0 5 (He.ma K (He.ga K "Setting") "__init__") (spSetR K) := by
  obtain ⟨fd, F⟩ := T.d_Setting_init
  obtain ⟨oc, od, dV, kV, doc, pm, an, cdv, ct, osl, rfl, lk, hcd, hD, hK⟩ := F.ex
  have e : dV = .none := by
    rcases hD with ⟨_, e⟩ | ⟨e, _⟩
    · exact e
    · exact absurd rfl e
  subst e
  refine StX.fn_star (ps := ["self", "size"]) (pv := "policies") (N := N_Setting_init) lk hcd sc_Setting_init StX.cxUp_none (StX.bind_star2 (B := fun l => bindArgs (PySem.W.fnOf d_Setting_init.name d_Setting_init.qual (defArgs d_Setting_init.st) (defBody d_Setting_init.st) (defScope d_Setting_init.st) .none kV doc pm an cdv ct) ⟨l, []⟩) (fun a b => rfl) (fun a b r rs => rfl)) fun A outer s H vs Q E hr h => ?_
  obtain ⟨t, h1, h2⟩ := b_Setting (P := P) (w := w) (base := base) T cdv A outer s H vs Q E hr h
  exact ⟨t, h1.nox, h2⟩
end
end Lw

namespace Lw
open PySem PySem.Spec PyProof.Rows L2
open LW (Hold Mode Pol Cfg Write Side Scene Parts Way Rule)
section
variable {P : Program} {w : World} {K : PySem.W.Frag} {mg : Str → Option Value} {base : Heap}
theorem eV_in (e : Bool) : (0 : Int) ≤ eV e ∧ eV e ≤ 1 := by cases e <;> exact ⟨by decide, by decide⟩
theorem mV_in (m : Mode) : inV (.str (mV m)) [.str "plain", .str "push", .str "more"] = true := by cases m <;> decide +kernel
def spIsWrite : Sp := fun vs H Q _ => ∃ (t : Addr) (wr : Write), vs = [.ref t] ∧ WrAt H t wr ∧ WrOk wr ∧ Q (.bl true) H
theorem c_is_write (T : Txt K mg) : Con P w K mg base 3 (He.ga K "is_write") ["value"] [] spIsWrite := by
  refine con_of T.d_is_write rfl rfl sc_is_write (fun _ _ _ _ _ _ us hl => match us, hl with | [_], _ => rfl) (fun vs H Q E h => ?_) (fun cdv A outer s H vs Q E hr h => ?_)
  · obtain ⟨t, wr, rfl, _⟩ := h
    rfl
  · obtain ⟨t, wr, rfl, ht, ok, q⟩ := h
    obtain ⟨t1, g1⟩ := T.i_MOST_LENGTH
    have nd := sc_is_write.nd
    have ht : H t = some (.tup [.int (eV wr.ep), .int wr.len, .str (mV wr.mode)]) := ht
    refine ⟨_, pss_cons (ps_if (PW.pt (pw_or (pt_not (pt_val (bi call_isi T.f_isinstance (pa_cons (pv 0) (pa_cons (tyv (n := "tuple") T.f_tuple) pa_nil)))))
        (pw_or1 (pt_cmpR op_ne (bi call_len_seq T.f_len (pa_cons (pv 0) pa_nil)) pe_int (nomark _))))) pss_never pss_nil)
      (pss_cons (ps_asg (pv 0) (pg_tup rfl (pgs_cons (gn 1 nd) (pgs_cons (gn 2 nd) (pgs_cons (gn 3 nd) pgs_nil)))))
      (pss_cons (ps_if (PW.pt (pw_or (pt_not (pt_val (call_c (c_in_range T) hr T.g_in_range (pa_cons (pv 1) (pa_cons pe_int (pa_cons pe_int pa_nil))))))
        (pw_or1 (pt_not (pt_val (call_c (c_in_range T) hr T.g_in_range (pa_cons (pv 2) (pa_cons pe_int (pa_cons (gint g1) pa_nil))))))))) pss_never pss_nil)
      (pss_one (ps_ret (pe_and (bi call_isi T.f_isinstance (pa_cons (pv 3) (pa_cons (tyv (n := "str") T.f_str) pa_nil)))
        (pe_one (pe_cmpR op_in_seq (pv 3) (gref T.modes.1) rfl))))))), ?_⟩
    refine ⟨_, rfl, _, _, _, _, true, rfl, .ty "tuple", .base (.tup ht), kit_ty (by decide +kernel), true, rfl, iteF ?_⟩
    refine ⟨_, rfl, t, _, rfl, .inr (SqT.of ht), rfl, _, rfl, iteF ?_⟩
    refine ⟨_, rfl, t, _, rfl, SqT.of ht, rfl, _, _, rfl, _, _, rfl, _, _, rfl, rfl, ?_⟩
    refine ⟨_, rfl, eV wr.ep, 0, 1, rfl, _, rfl, ?_⟩
    rw [decide_eq_true (eV_in wr.ep)]
    refine iteF ⟨_, rfl, wr.len, 1, 10 ^ 18, rfl, _, rfl, ?_⟩
    rw [decide_eq_true (show (1 : Int) ≤ wr.len ∧ wr.len ≤ 10 ^ 18 from ⟨ok.lo, ok.hi⟩)]
    refine iteF ⟨_, rfl, _, _, _, _, true, rfl, .ty "str", .base (.str _), kit_ty (by decide +kernel), true, rfl, iteT ⟨_, rfl, _, _, rfl, .inr (T.modes.2 H), rfl, rfl, ?_⟩⟩
    show Q (.bl (inV (.str (mV wr.mode)) [.str "plain", .str "push", .str "more"])) H
    rw [mV_in]
    exact q
def spCheck : Sp := fun vs H Q _ => ∃ (a : Addr) (ws : List Write), vs = [.ref a] ∧ ConvAt H a ws ∧ ws.length ≤ 200 ∧ (∀ wr ∈ ws, WrOk wr) ∧ ∀ H', Same H H' → Q .non H'
theorem c_check (T : Txt K mg) : Con P w K mg base 4 (He.ga K "check") ["conversation"] [] spCheck := by
  refine con_of T.d_check rfl rfl sc_check (fun _ _ _ _ _ _ us hl => match us, hl with | [_], _ => rfl) (fun vs H Q E h => ?_) (fun cdv A outer s H vs Q E hr h => ?_)
  · obtain ⟨a, ws, rfl, _⟩ := h
    rfl
  · obtain ⟨a, ws, rfl, hc, hl, ok, q⟩ := h
    obtain ⟨t1, g1⟩ := T.i_MOST_WRITES
    obtain ⟨ts, h1, h2⟩ := id hc
    have nd := sc_check.nd
    refine ⟨_, pss_cons (ps_if (PW.pt (pw_or (pt_not (pt_val (bi call_isi T.f_isinstance (pa_cons (pv 0) (pa_cons (tyv (n := "list") T.f_list) pa_nil)))))
        (pw_or1 (pt_cmpR op_gt (bi call_len_seq T.f_len (pa_cons (pv 0) pa_nil)) (gint g1) (nomark _))))) pss_never pss_nil)
      (pss_one (ps_for PassesOwn.never rfl (pi_enum rfl T.f_enumerate (pa_cons (pv 0) pa_nil)) (pg_tup rfl (pgs_cons (gn 1 nd) (pgs_cons (gn 2 nd) pgs_nil)))
        (pss_one (ps_if (pt_not (pt_val (call_c (c_is_write T) hr T.g_is_write (pa_cons (pv 2) pa_nil)))) pss_never pss_nil)))), ?_⟩
    refine ⟨_, rfl, _, _, _, _, true, rfl, .ty "list", .base (.lst h1), kit_ty (by decide +kernel), true, rfl, iteF ?_⟩
    refine ⟨_, rfl, a, _, rfl, .inl (SqL.of h1), _, _, rfl, rfl, _, rfl, ?_⟩
    have l2 : ¬ ((200 : Int) < ((ts.map V.ref).length : Int)) := by
      rw [List.length_map, h2.len]
      omega
    rw [decide_eq_false l2]
    refine iteF ⟨_, rfl, a, _, rfl, SqL.of h1, for_it walk_enum (fun i σ H' => (∃ u v, σ = [some (.ref a), u, v]) ∧ Same H H') ⟨⟨_, _, rfl⟩, Same.refl H⟩ (fun i σ H' _ z => z.2.seq (SqL.of h1)) ?_ ?_⟩
    · rintro i x σ H1 H2 hi ⟨⟨u, v, rfl⟩, s1⟩ ⟨Tp, y, z, rfl, nT, rfl, ey, ez⟩
      have ey : V.int (i : Nat) = y := Option.some.inj ey
      subst ey
      obtain ⟨t, et, rfl⟩ := ref_at ez
      obtain ⟨wr, ew, hw⟩ := h2.get' et
      have s2 : Same H (upd H1 Tp (.tup [.int (i : Nat), .ref t])) := same_new s1 nT
      refine ⟨Tp, _, rfl, SqT.of upd_same, rfl, _, _, rfl, _, _, rfl, rfl, ?_⟩
      refine ⟨_, rfl, t, wr, rfl, s2 _ _ hw, ok wr (List.mem_of_getElem? ew), _, rfl, iteF ?_⟩
      exact ⟨⟨_, _, rfl⟩, s2⟩
    · rintro σ H1 ⟨_, s1⟩
      exact q H1 s1
end
end Lw

namespace Lw
open PySem PySem.Spec PyProof.Rows L2
open LW (Hold Mode Pol Cfg Write Side Scene Parts Way Rule TP addT epAt)
/-- a turn as its triple -/
def TurnAt (H : Hp) (a : Addr) (t : Bool × Nat × Nat) : Prop := H a = some (.tup [.int (eV t.1), .int (t.2.1 : Nat), .int (t.2.2 : Nat)])
def TurnsAt (H : Hp) (l : Addr) (ts : List (Bool × Nat × Nat)) : Prop := ∃ as : List Addr, H l = some (.lst (as.map V.ref)) ∧ All2 (TurnAt H) as ts
/-- lists of triples of ints, as data -/
def tD (t : Bool × Nat × Nat) : PyData := .tuple [.int (eV t.1), .int (t.2.1 : Nat), .int (t.2.2 : Nat)]
theorem tD_dp {K : PySem.W.Frag} {H : Hp} {a : Addr} {t : Bool × Nat × Nat} (h : TurnAt H a t) : Dp K H (.ref a) (tD t) :=
  .tup (SqT.of h) (.cons (.int _) (.cons (.int _) (.cons (.int _) .nil)))
theorem dpAll_of {α : Type} {K : PySem.W.Frag} {H : Hp} {R : Addr → α → Prop} {f : α → PyData} (hf : ∀ a x, R a x → Dp K H (.ref a) (f x)) : ∀ {as : List Addr} {xs : List α}, All2 R as xs → DpAll K H (as.map V.ref) (xs.map f)
  | [], [], _ => .nil
  | [], _ :: _, h => by have := h.len; simp at this
  | _ :: _, [], h => by have := h.len; simp at this
  | a :: as, x :: xs, h => .cons (hf a x h.tail.1) (dpAll_of hf h.tail.2)
theorem tD_lay : ∀ ts : List (Bool × Nat × Nat), PyData.canLayAll0 (ts.map tD) = true ∧ PyData.depthAll (ts.map tD) ≤ 1
  | [] => ⟨rfl, Nat.zero_le _⟩
  | t :: ts => by
    obtain ⟨h1, h2⟩ := tD_lay ts
    refine ⟨?_, ?_⟩
    · show (PyData.canLay0 (tD t) && PyData.canLayAll0 (ts.map tD)) = true
      rw [h1]
      rfl
    · show max (PyData.depth (tD t)) (PyData.depthAll (ts.map tD)) ≤ 1
      have : PyData.depth (tD t) = 1 := rfl
      omega
theorem tD_shaped (ts : List (Bool × Nat × Nat)) : SeqAt.shaped (.list (ts.map tD)) = true := by
  obtain ⟨h1, h2⟩ := tD_lay ts
  unfold SeqAt.shaped
  have e1 : PyData.canLay0 (.list (ts.map tD)) = true := h1
  have e2 : PyData.depth (.list (ts.map tD)) ≤ 64 := by
    show PyData.depthAll (ts.map tD) + 1 ≤ 64
    omega
  rw [e1, decide_eq_true e2]
  rfl
theorem eqv_nil (ds : List PyData) : PyData.eqv (.list ds) (.list []) = ds.isEmpty := by
  cases ds with
  | nil => rfl
  | cons d ds => rfl
theorem at_neg1 {α : Type} {xs : List α} {x : α} : ixN (xs ++ [x]).length (-1) = some xs.length := by
  have hl : (xs ++ [x]).length = xs.length + 1 := by simp
  unfold ixN
  rw [hl, if_neg (by decide), if_pos (by omega)]
  congr 1
  omega
section
variable {P : Program} {w : World} {K : PySem.W.Frag} {mg : Str → Option Value} {base : Heap}
def spSplit : Sp := fun vs H Q _ => ∃ (a : Addr) (ws : List Write), vs = [.ref a] ∧ ConvAt H a ws ∧ ws.length ≤ 200 ∧
  ∀ (l : Addr) (H' : Hp) (ts : List (Bool × Nat × Nat)), Same H H' → H l = none → TurnsAt H' l ts → TP ws ts ws.length → Q (.ref l) H'
theorem c_split_turns (T : Txt K mg) : Con P w K mg base 1 (He.ga K "split_turns") ["writes"] [] spSplit := by
  refine con_of T.d_split_turns rfl rfl sc_split_turns (fun _ _ _ _ _ _ us hl => match us, hl with | [_], _ => rfl) (fun vs H Q E h => ?_) (fun cdv A outer s H vs Q E hr h => ?_)
  · obtain ⟨a, ws, rfl, _⟩ := h
    rfl
  · obtain ⟨a, ws, rfl, hc, hlen, q⟩ := h
    obtain ⟨ws', h1, h2⟩ := id hc
    have nd := sc_split_turns.nd
    refine ⟨_, pss_cons (ss 1 nd (pe_lst pa_nil))
      (pss_cons (ps_for PassesOwn.never rfl (pi_enum rfl T.f_enumerate (pa_cons (pv 0) pa_nil)) (pg_tup rfl (pgs_cons (gn 2 nd) (pgs_cons (gn 3 nd) pgs_nil)))
        (pss_one (ps_if (PW.pt (pw_or (pt_cmpR (op_eqD hr.units) (pv 1) (pe_lst pa_nil) (nomark _))
            (pw_or1 (pt_cmpR op_ne (pe_ix ix_tup (pe_ix ix_list (pv 1) (pe_un un_neg pe_int) (fun _ _ => rfl)) pe_int (fun _ _ => rfl)) (pe_ix ix_tup (pv 3) pe_int (fun _ _ => rfl)) (nomark _)))))
          (pss_one (ps_expr (pe_bm PySem.F.plainAttrs_list PySem.F.slot_list_append PySem.F.type_list_append mt_append (pv 1) (pa_cons (pe_tup (pa_cons (pe_ix ix_tup (pv 3) pe_int (fun _ _ => rfl)) (pa_cons (pv 2) (pa_cons (pe_op op_add (pv 2) pe_int) pa_nil)))) pa_nil))))
          (pss_one (ps_asg (pe_tup (pa_cons (pe_ix ix_tup (pv 3) pe_int (fun _ _ => rfl)) (pa_cons (pe_ix ix_tup (pe_ix ix_list (pv 1) (pe_un un_neg pe_int) (fun _ _ => rfl)) pe_int (fun _ _ => rfl)) (pa_cons (pe_op op_add (pv 2) pe_int) pa_nil))))
            (pg_sub (pv 1) (pe_un un_neg pe_int) set_list))))))
      (pss_one (ps_ret (pv 1)))), ?_⟩
    refine ⟨Nat.zero_le _, fun l hl => ?_⟩
    have s0 : Same H (upd H l (.lst [])) := same_new (Same.refl H) hl
    refine ⟨_, rfl, a, _, rfl, s0.seq (SqL.of h1), for_it walk_enum (fun i σ H' => ∃ u v ts, σ = [some (.ref a), some (.ref l), u, v] ∧ Same H H' ∧ TurnsAt H' l ts ∧ TP ws ts i)
      ⟨none, none, [], rfl, s0, ⟨[], upd_same, All2.nil⟩, .nil⟩ (fun i σ H' _ ⟨_, _, _, _, z, _⟩ => z.seq (SqL.of h1)) ?_ ?_⟩
    · rintro i x σ H1 H2 hi ⟨u, v, ts, rfl, s1, ⟨as, hl1, ha⟩, tp⟩ ⟨Tp, y, z, rfl, nT, rfl, ey, ez⟩
      have ey : V.int (i : Nat) = y := Option.some.inj ey
      subst ey
      obtain ⟨t, et, rfl⟩ := ref_at ez
      obtain ⟨wr, ew, hw⟩ := h2.get' et
      have ep : epAt ws i = some wr.ep := by
        unfold epAt
        rw [ew]
        rfl
      have tpA := tp.add ep
      have hi200 : i < 200 := by
        have := (List.getElem?_eq_some_iff.mp ew).1
        omega
      have small : as.length < 1000 := by
        have l1 := ha.len
        have : ∀ {ts : List (Bool × Nat × Nat)} {n : Nat}, TP ws ts n → ts.length ≤ n := by
          intro ts n h
          induction h with
          | nil => exact Nat.le_refl _
          | snoc _ lt _ _ ih =>
            rw [List.length_append]
            simp
            omega
        have := this tp
        omega
      have s2 : Same H (upd H1 Tp (.tup [.int (i : Nat), .ref t])) := same_new s1 nT
      have hl2 : (upd H1 Tp (.tup [.int (i : Nat), .ref t])) l = some (.lst (as.map V.ref)) := upd_new nT hl1
      have ha2 : All2 (TurnAt (upd H1 Tp (.tup [.int (i : Nat), .ref t]))) as ts := ha.mono fun b x q => upd_new nT q
      have hw2 : (upd H1 Tp (.tup [.int (i : Nat), .ref t])) t = some (.tup [.int (eV wr.ep), .int wr.len, .str (mV wr.mode)]) := s2 _ _ hw
      refine ⟨Tp, _, rfl, SqT.of upd_same, rfl, _, _, rfl, _, _, rfl, rfl, ?_⟩
      generalize upd H1 Tp (.tup [.int (i : Nat), .ref t]) = H2 at *
      -- found == []
      refine ⟨_, rfl, Nat.zero_le _, fun e0 he0 => ?_⟩
      have s3 : Same H (upd H2 e0 (.lst [])) := same_new s2 he0
      have hl3 : (upd H2 e0 (.lst [])) l = some (.lst (as.map V.ref)) := upd_new he0 hl2
      have ha3 : All2 (TurnAt (upd H2 e0 (.lst []))) as ts := ha2.mono fun b x q => upd_new he0 q
      have hw3 : (upd H2 e0 (.lst [])) t = some (.tup [.int (eV wr.ep), .int wr.len, .str (mV wr.mode)]) := upd_new he0 hw2
      have he3 : (upd H2 e0 (.lst [])) e0 = some (.lst []) := upd_same
      generalize upd H2 e0 (.lst []) = H3 at *
      refine ⟨.list (ts.map tD), .list [], .lst (SqL.of hl3) (dpAll_of (fun a x h => tD_dp h) ha3), .lst (SqL.of he3) .nil, tD_shaped ts, tD_shaped [], _, rfl, ?_⟩
      rw [eqv_nil]
      -- a new triple is appended
      have app : ∀ (p : Addr) (e : LW.addT ts i wr.ep = ts ++ [(wr.ep, i, i + 1)]), H3 p = none → H l = none → ∃ u v ts', ([some (.ref a), some (.ref l), some (V.int (i : Nat)), some (V.ref t)] : L2.St) = [some (.ref a), some (.ref l), u, v] ∧
          Same H (upd (upd H3 p (.tup [.int (eV wr.ep), .int (i : Nat), .int ((i : Nat) + 1)])) l (.lst (as.map V.ref ++ [.ref p]))) ∧ TurnsAt (upd (upd H3 p (.tup [.int (eV wr.ep), .int (i : Nat), .int ((i : Nat) + 1)])) l (.lst (as.map V.ref ++ [.ref p]))) l ts' ∧ TP ws ts' (i + 1) := by
        intro p e hp _
        have lp : ∀ b o, H3 b = some o → b ≠ p := fun b o q => ne_of_none q hp
        refine ⟨_, _, ts ++ [(wr.ep, i, i + 1)], rfl, same_put (same_new s3 hp) hl, ⟨as ++ [p], by rw [upd_same, List.map_append]; rfl, All2.snoc (ha3.mono fun b x q => ?_) ?_⟩, by rw [← e]; exact tpA⟩
        · have q : H3 b = _ := q
          have nb : b ≠ l := ne_of q hl3 (by intro z; cases z)
          show upd _ _ _ b = _
          rw [upd_ne nb, upd_ne (lp b _ q)]
          exact q
        · have nb : p ≠ l := fun z => by rw [z, hl3] at hp; cases hp
          show upd _ _ _ p = _
          rw [upd_ne nb, upd_same]
          rfl
      have store : ∀ p, H3 p = none → (upd H3 p (.tup [.int (eV wr.ep), .int (i : Nat), .int ((i : Nat) + 1)])) l = some (.lst (as.map V.ref)) := fun p hp => upd_new hp hl3
      rcases nil_or_snoc ts with rfl | ⟨ts0, ⟨s', m, m'⟩, rfl⟩
      · refine iteT ?_
        refine ⟨_, rfl, .inl ⟨rfl, _, SqL.of hl3⟩, _, rfl, t, _, 0, _, rfl, rfl, SqT.of hw3, atI_nat (j := 0) rfl, _, rfl, _, rfl, _, _, rfl, rfl, (by show 3 ≤ sizeLine; decide), fun p hp => ?_⟩
        refine ⟨l, _, _, rfl, rfl, store p hp, by rw [List.length_map]; exact small1000 (by omega), ?_⟩
        exact app p rfl hp hl
      · have eE : ((ts0 ++ [(s', m, m')]).map tD).isEmpty = false := by
          cases ts0 <;> rfl
        rw [eE]
        refine iteF ?_
        rcases nil_or_snoc as with rfl | ⟨as0, a1, rfl⟩
        · have := ha3.len
          simp at this
        · obtain ⟨ha0, ha1⟩ := ha3.init
          have ha1 : H3 a1 = some (.tup [.int (eV s'), .int (m : Nat), .int (m' : Nat)]) := ha1
          have hl3' : H3 l = some (.lst (as0.map V.ref ++ [V.ref a1])) := by
            rw [hl3, List.map_append]
            rfl
          have eA : LW.addT (ts0 ++ [(s', m, m')]) i wr.ep = if s' = wr.ep then ts0 ++ [(s', m, i + 1)] else (ts0 ++ [(s', m, m')]) ++ [(wr.ep, i, i + 1)] := by
            unfold LW.addT
            rw [List.getLast?_concat]
            simp only [List.dropLast_concat]
          refine ⟨_, rfl, _, rfl, l, _, _, _, rfl, rfl, SqL.of hl3', atI_last _ _, a1, _, 0, _, rfl, rfl, SqT.of ha1, atI_nat (j := 0) rfl, _, rfl, t, _, 0, _, rfl, rfl, SqT.of hw3, atI_nat (j := 0) rfl, rfl, _, rfl, ?_⟩
          by_cases es : s' = wr.ep
          · have ed : decide (V.int (eV s') = V.int (eV wr.ep)) = true := decide_eq_true (by rw [es])
            rw [ed]
            refine iteF ?_
            refine ⟨_, rfl, t, _, 0, _, rfl, rfl, SqT.of hw3, atI_nat (j := 0) rfl, _, rfl, _, rfl, l, _, _, _, rfl, rfl, SqL.of hl3', atI_last _ _, a1, _, 1, _, rfl, rfl, SqT.of ha1, atI_nat (j := 1) rfl, _, rfl, _, _, rfl, rfl, (by show 3 ≤ sizeLine; decide), fun p hp => ?_⟩
            refine ⟨_, rfl, _, rfl, l, _, _, _, rfl, rfl, upd_new hp hl3', at_neg1, ?_⟩
            have lp : ∀ b o, H3 b = some o → b ≠ p := fun b o q => ne_of_none q hp
            have nb : p ≠ l := fun z => by rw [z, hl3] at hp; cases hp
            refine ⟨_, _, ts0 ++ [(s', m, i + 1)], rfl, same_put (same_new s3 hp) hl, ⟨as0 ++ [p], ?_, All2.snoc (ha0.mono fun b x q => ?_) ?_⟩, by rw [eA, if_pos es] at tpA; exact tpA⟩
            · rw [upd_same, List.map_append]
              simp
            · have q : H3 b = _ := q
              have nb : b ≠ l := ne_of q hl3 (by intro z; cases z)
              show upd _ _ _ b = _
              rw [upd_ne nb, upd_ne (lp b _ q)]
              exact q
            · show upd _ _ _ p = _
              rw [upd_ne nb, upd_same, ← es]
              rfl
          · have ed : decide (V.int (eV s') = V.int (eV wr.ep)) = false := decide_eq_false fun z => es (eV_inj (V.int.inj z))
            rw [ed]
            refine iteT ?_
            refine ⟨_, rfl, .inl ⟨rfl, _, SqL.of hl3⟩, _, rfl, t, _, 0, _, rfl, rfl, SqT.of hw3, atI_nat (j := 0) rfl, _, rfl, _, rfl, _, _, rfl, rfl, (by show 3 ≤ sizeLine; decide), fun p hp => ?_⟩
            refine ⟨l, _, _, rfl, rfl, store p hp, by rw [List.length_map]; exact small1000 (by omega), ?_⟩
            exact app p (by rw [eA, if_neg es]) hp hl
    · rintro σ H1 ⟨u, v, ts, rfl, s1, tA, tp⟩
      have el : (ws'.map V.ref).length = ws.length := by rw [List.length_map, h2.len]
      rw [el] at tp
      exact ⟨_, rfl, q l H1 ts s1 hl tA tp⟩
end
end Lw

namespace Lw
open PySem PySem.Spec PyProof.Rows L2
open LW (Hold Mode Pol Cfg Write Side Scene Parts Way Rule TP addT epAt PlanP bnd)
section
variable {P : Program} {w : World} {K : PySem.W.Frag} {mg : Str → Option Value} {base : Heap}
theorem int_at {ns : List Int} {i : Nat} {y : V} (h : (ns.map V.int)[i]? = some y) : ∃ n, ns[i]? = some n ∧ y = V.int n := by
  rw [List.getElem?_map] at h
  cases e : ns[i]? with
  | none => rw [e] at h; cases h
  | some a =>
    rw [e] at h
    exact ⟨a, rfl, (Option.some.inj h).symm⟩
theorem inV_ints (x : Int) (ns : List Int) : inV (.int x) (ns.map V.int) = decide (x ∈ ns) := by
  unfold inV
  induction ns with
  | nil => rfl
  | cons n ns ih =>
    rw [List.map_cons, List.any_cons, ih]
    show ((n == x) || decide (x ∈ ns)) = decide (x ∈ n :: ns)
    by_cases h : n = x
    · simp [h]
    · have h' : ¬ x = n := fun z => h z.symm
      simp [h, h']
theorem flat_ints (ns : List Int) : (ns.map V.int).all flatV = true := by
  rw [List.all_eq_true]
  intro v hv
  obtain ⟨n, _, rfl⟩ := List.mem_map.mp hv
  rfl
def spNormal : Sp := fun vs H Q _ => ∃ (a o : Addr) (ws : List Write) (ks : List Int), vs = [.ref a, .ref o] ∧ ConvAt H a ws ∧ ws.length ≤ 200 ∧ (∀ wr ∈ ws, WrOk wr) ∧ H o = some (.lst (ks.map V.int)) ∧ PlanP ws ws.length ks ∧
  ∀ (l : Addr) (H' : Hp), Same H H' → H l = none → H' l = some (.lst (ks.map V.int)) → Q (.ref l) H'
theorem c_normal_order (T : Txt K mg) : Con P w K mg base 5 (He.ga K "normal_order") ["conversation", "order"] [] spNormal := by
  refine con_of T.d_normal_order rfl rfl sc_normal_order (fun _ _ _ _ _ _ us hl => match us, hl with | [_, _], _ => rfl) (fun vs H Q E h => ?_) (fun cdv A outer s H vs Q E hr h => ?_)
  · obtain ⟨a, o, ws, ks, rfl, _⟩ := h
    rfl
  · obtain ⟨a, o, ws, ks, rfl, hc, hlen, ok, ho, hp, q⟩ := h
    have nd := sc_normal_order.nd
    refine ⟨_, pss_cons (ps_expr (call_c (c_check T) hr T.g_check (pa_cons (pv 0) pa_nil)))
      (pss_cons (ss 2 nd (pe_lc (own := [("endpoint", 6), ("start", 7), ("stop", 8)]) (g := gTup K 3 (gCons (gName 6) (gCons (gName 7) (gCons (gName 8) gNil)))) (tt := tYes) (te := tVar 7) rfl nd
          (pi_list (call_c (c_split_turns T) (hr.mono (by decide)) T.g_split_turns (pa_cons (pv 0) pa_nil))) (blkOk_by (N := N_normal_order) (sc := defScope st_normal_order) (by decide +kernel))
          (fun _ _ _ _ _ => pg_tup rfl (pgs_cons (gn 6 nd) (pgs_cons (gn 7 nd) (pgs_cons (gn 8 nd) pgs_nil)))) (fun _ _ _ _ _ => pts_nil) (fun _ _ _ _ _ => pv 7)))
      (pss_cons (ps_setLc (i := 4) (own := [("index", 3)]) (g := gName 3) (tt := tYes) (te := tIf (tTest (tOp (rIn K false) (tVar 3) (tVar 2))) (tC (.int 0)) (tC (.int 2))) rfl nd rfl rfl (sw_true rfl rfl rfl (by decide +kernel))
          (pi_range1 rfl T.f_range (pa_cons (bi call_len_seq T.f_len (pa_cons (pv 0) pa_nil)) pa_nil)) (blkOk_by (N := N_normal_order) (sc := defScope st_normal_order) (by decide +kernel))
          (fun _ _ _ _ _ => gn 3 nd) (fun _ _ _ _ _ => pts_nil) (fun _ _ _ _ _ => pe_ifExp (pt_cmpR op_in_seq (pv 3) (pv 2) rfl) pe_int pe_int))
      (pss_cons (ps_if (PW.pt (pw_and (pt_val (bi call_isi T.f_isinstance (pa_cons (pv 1) (pa_cons (tyv (n := "str") T.f_str) pa_nil)))) (pw_and1 pt_never))) pss_never pss_nil)
      (pss_cons (ps_if (PW.pt (pw_or (pt_not (pt_val (bi call_isi T.f_isinstance (pa_cons (pv 1) (pa_cons (tyv (n := "list") T.f_list) pa_nil)))))
        (pw_or1 (pt_cmpR op_ne (bi call_len_seq T.f_len (pa_cons (pv 1) pa_nil)) (bi call_len_seq T.f_len (pa_cons (pv 0) pa_nil)) (nomark _))))) pss_never pss_nil)
      (pss_cons (ps_for PassesOwn.never rfl (pi_enum rfl T.f_enumerate (pa_cons (pv 1) pa_nil)) (pg_tup rfl (pgs_cons (gn 3 nd) (pgs_cons (gn 5 nd) pgs_nil)))
        (pss_one (ps_if (pt_not (pt_val (call_c (c_in_range T) (hr.mono (by decide)) T.g_in_range (pa_cons (pv 5) (pa_cons pe_int (pa_cons (pe_ix ix_list (pv 4) (pv 3) (fun _ _ => rfl)) pa_nil)))))) pss_never pss_nil)))
      (pss_one (ps_ret (ty call_list_of T.f_list (pa_cons (pv 1) pa_nil))))))))), ?_⟩
    refine ⟨_, rfl, a, ws, rfl, hc, hlen, ok, fun H1 s1 => ?_⟩
    -- starts
    refine ⟨_, rfl, a, ws, rfl, hc.mono s1, hlen, fun tl H2 ts s2 htl tA tp => ?_⟩
    obtain ⟨as, htA, hAs⟩ := tA
    have s12 := s1.trans s2
    refine ⟨tl, rfl, ⟨_, SqL.of htA⟩, fun D hD => ?_⟩
    refine lc_list (K := K) (xs := as.map V.ref) (fun i H' => H' = upd H2 D (.lst (((ts.take i).map fun t => (t.2.1 : Int)).map V.int))) rfl (fun i H' _ e => by rw [e]; exact SqL.of (upd_new hD htA)) (fun i y H' hi e => ?_) (fun H' e => ?_)
    · subst e
      obtain ⟨b, hb, rfl⟩ := ref_at hi
      obtain ⟨⟨e0, m, m'⟩, ht, hT⟩ := hAs.get' hb
      have hT : H2 b = some (.tup [.int (eV e0), .int (m : Nat), .int (m' : Nat)]) := hT
      refine ⟨b, _, rfl, SqT.of (upd_new hD hT), rfl, _, _, rfl, _, _, rfl, _, _, rfl, rfl, rfl, ?_⟩
      refine iteT (B := False) ?_
      refine ⟨_, rfl, _, upd_same, ?_, ?_⟩
      · rw [List.length_map, List.length_map, List.length_take]
        have : ∀ {ts : List (Bool × Nat × Nat)} {n : Nat}, TP ws ts n → ts.length ≤ n := by
          intro ts n h
          induction h with
          | nil => exact Nat.le_refl _
          | snoc _ lt _ _ ih =>
            rw [List.length_append]
            simp
            omega
        have := this tp
        exact small1000 (by omega)
      · rw [upd_upd, List.take_add_one, ht]
        simp
    · subst e
      have et : ts.take (as.map V.ref).length = ts := by
        rw [List.length_map, hAs.len, List.take_length]
      rw [et]
      have hS : (upd H2 D (.lst ((ts.map fun t => (t.2.1 : Int)).map V.int))) D = some (.lst ((ts.map fun t => (t.2.1 : Int)).map V.int)) := upd_same
      have s3 : Same H (upd H2 D (.lst ((ts.map fun t => (t.2.1 : Int)).map V.int))) := same_new s12 hD
      generalize upd H2 D (.lst ((ts.map fun t => (t.2.1 : Int)).map V.int)) = H3 at hS s3
      obtain ⟨cs, hcs, hcW⟩ := hc
      -- most
      refine ⟨_, rfl, a, _, rfl, .inl (SqL.of (s3 _ _ hcs)), _, rfl, by omega, ?_, ?_⟩
      · rw [List.length_map, hcW.len]
        omega
      · intro M hM
        refine lc_range (fun i H' => H' = upd H3 M (.lst (((List.range i).map fun j => bnd ws j).map V.int))) rfl (fun i H' hi e => ?_) (fun H' e => ?_)
        · subst e
          have hi' : i < ws.length := by
            rw [List.length_map, hcW.len] at hi
            omega
          refine ⟨rfl, ?_⟩
          refine iteT (B := False) ?_
          refine ⟨_, rfl, _, rfl, D, _, rfl, .inl (SqL.of (upd_new hM hS)), rfl, flat_ints _, _, rfl, ?_⟩
          show if inV (.int (0 + (i : Int))) ((ts.map fun t => (t.2.1 : Int)).map V.int) = true then _ else _
          rw [inV_ints]
          have key := (tp.starts).2 i hi'
          have fin : ∀ z : Int, z = bnd ws i → ∃ acc, (upd H3 M (.lst (((List.range i).map fun j => bnd ws j).map V.int))) M = some (.lst acc) ∧ acc.length < sizeLine ∧
              upd (upd H3 M (.lst (((List.range i).map fun j => bnd ws j).map V.int))) M (.lst (acc ++ [V.int z])) = upd H3 M (.lst (((List.range (i + 1)).map fun j => bnd ws j).map V.int)) := by
            intro z hz
            refine ⟨_, upd_same, ?_, ?_⟩
            · rw [List.length_map, List.length_map, List.length_range]
              exact small1000 (by omega)
            · rw [upd_upd, List.range_succ, List.map_append, List.map_append, hz]
              rfl
          by_cases hm : (0 + (i : Int)) ∈ ts.map fun t => (t.2.1 : Int)
          · rw [decide_eq_true hm]
            refine iteT (fin 0 ?_)
            obtain ⟨t, ht, et⟩ := List.mem_map.mp hm
            exact (key.mp ⟨t, ht, by omega⟩).symm
          · rw [decide_eq_false hm]
            refine iteF (fin 2 ?_)
            have : ¬ bnd ws i = 0 := fun z => by
              obtain ⟨t, ht, et⟩ := key.mpr z
              exact hm (List.mem_map.mpr ⟨t, ht, by omega⟩)
            unfold bnd at this ⊢
            split
            · rfl
            · rename_i h
              rw [if_neg h] at this
              exact absurd rfl this
        · subst e
          have en : (((cs.map V.ref).length : Int)).toNat = ws.length := by
            rw [List.length_map, hcW.len]
            omega
          rw [en]
          have hMo : (upd H3 M (.lst (((List.range ws.length).map fun j => bnd ws j).map V.int))) M = some (.lst (((List.range ws.length).map fun j => bnd ws j).map V.int)) := upd_same
          have s4 : Same H (upd H3 M (.lst (((List.range ws.length).map fun j => bnd ws j).map V.int))) := same_new s3 hM
          have hDM : (upd H3 M (.lst (((List.range ws.length).map fun j => bnd ws j).map V.int))) D = some (.lst ((ts.map fun t => (t.2.1 : Int)).map V.int)) := upd_new hM hS
          generalize upd H3 M (.lst (((List.range ws.length).map fun j => bnd ws j).map V.int)) = H4 at hMo s4 hDM
          have ho4 := s4 _ _ ho
          have hl := hp.1
          refine ⟨_, rfl, _, _, _, _, false, rfl, .ty "str", .base (.lst ho4), kit_ty (by decide +kernel), false, rfl, iteF ?_⟩
          refine iteF ?_
          refine ⟨_, rfl, _, _, _, _, true, rfl, .ty "list", .base (.lst ho4), kit_ty (by decide +kernel), true, rfl, iteF ?_⟩
          refine ⟨_, rfl, o, _, rfl, .inl (SqL.of ho4), _, rfl, a, _, rfl, .inl (SqL.of (s4 _ _ hcs)), rfl, _, rfl, ?_⟩
          have el : ((ks.map V.int).length : Int) = ((cs.map V.ref).length : Int) := by
            rw [List.length_map, List.length_map, hcW.len, hl]
          rw [el]
          refine iteNS rfl ?_
          refine ⟨_, rfl, o, _, rfl, SqL.of ho4, for_it walk_enum (fun i σ H' => (∃ u v, σ = [some (.ref a), some (.ref o), some (.ref D), u, some (.ref M), v, none, none, none]) ∧ Same H4 H') ⟨⟨_, _, rfl⟩, Same.refl H4⟩ (fun i σ H' _ z => z.2.seq (SqL.of ho4)) ?_ ?_⟩
          · rintro i x σ H5 H6 hi ⟨⟨u, v, rfl⟩, s5⟩ ⟨Tp, y, z, rfl, nT, rfl, ey, ez⟩
            have ey : V.int (i : Nat) = y := Option.some.inj ey
            subst ey
            obtain ⟨n, en, rfl⟩ := int_at ez
            have hb := hp.2 i n en
            have hi' : i < ws.length := by
              have := (List.getElem?_eq_some_iff.mp en).1
              omega
            have s6 : Same H4 (upd H5 Tp (.tup [.int (i : Nat), .int n])) := same_new s5 nT
            refine ⟨Tp, _, rfl, SqT.of upd_same, rfl, _, _, rfl, _, _, rfl, rfl, ?_⟩
            refine ⟨_, rfl, _, rfl, _, rfl, M, _, _, _, rfl, rfl, SqL.of (s6 _ _ hMo), atI_nat (v := V.int (bnd ws i)) (by rw [List.getElem?_map, List.getElem?_map, List.getElem?_range hi']; rfl), n, 0, bnd ws i, rfl, _, rfl, ?_⟩
            rw [decide_eq_true hb]
            refine iteF ?_
            exact ⟨⟨_, _, rfl⟩, s6⟩
          · rintro σ H5 ⟨⟨u, v, rfl⟩, s5⟩
            refine ⟨_, rfl, o, _, rfl, .inl (SqL.of (s5 _ _ ho4)), fun l hl => ?_⟩
            refine q l _ (same_new (s4.trans s5) hl) ((s4.trans s5).free hl) upd_same
end
end Lw

namespace Lw
open PySem PySem.Spec PyProof.Rows L2
open LW (Hold Mode Pol Cfg Write Side Scene Parts Way Rule)
theorem iteD {c A B : Prop} [Decidable c] (h : c) (a : A) : if decide c = true then A else B := by
  rw [decide_eq_true h]
  exact iteT a
theorem iteDn {c A B : Prop} [Decidable c] (h : ¬ c) (b : B) : if decide c = true then A else B := by
  rw [decide_eq_false h]
  exact iteF b
theorem iteDN {c A B : Prop} [Decidable c] (h : ¬ c) (a : A) : if (!decide c) = true then A else B := by
  rw [decide_eq_false h]
  exact iteT a
def RuleAt (H : Hp) (a : Addr) (r : Rule) : Prop := H a = some (.tup [.int r.size, .str (hV r.hold), .int r.every])
def PartsAt (H : Hp) (a : Addr) (p : Parts) : Prop := H a = some (.tup [.int p.rest, .bl p.kept, .bl p.blocked, .bl p.stuck, .int p.pending, .int p.quick])
structure RuleOk (r : Rule) : Prop where
  s1 : 1 ≤ r.size
  s2 : r.size ≤ 1000000
  e0 : 0 ≤ r.every
  e9 : r.every ≤ 9
section
variable {P : Program} {w : World} {K : PySem.W.Frag} {mg : Str → Option Value} {base : Heap}
theorem min_eq (i j : Int) : (if j < i then j else i) = min i j := by
  rw [Int.min_def]
  split <;> split <;> omega
def spWF : Sp := fun vs H Q _ => ∃ (ra pa : Addr) (r : Rule) (p : Parts) (many : Int), vs = [.ref ra, .ref pa, .int many] ∧ RuleAt H ra r ∧ PartsAt H pa p ∧ RuleOk r ∧
  ∀ (t a : Addr) (H' : Hp), Same H H' → H' t = some (.tup [.ref a, .int (LW.wf r p many).2]) → PartsAt H' a (LW.wf r p many).1 → Q (.ref t) H'
theorem c_with_full (T : Txt K mg) : Con P w K mg base 1 (He.ga K "with_full") ["rules", "parts", "many"] [] spWF := by
  refine con_of T.d_with_full rfl rfl sc_with_full (fun _ _ _ _ _ _ us hl => match us, hl with | [_, _, _], _ => rfl) (fun vs H Q E h => ?_) (fun cdv A outer s H vs Q E hr h => ?_)
  · obtain ⟨ra, pa, r, p, many, rfl, _⟩ := h
    rfl
  · obtain ⟨ra, pa, ⟨size, hold, every⟩, p, many, rfl, hR, hP, ok, q⟩ := h
    have hR : H ra = some (.tup [.int size, .str (hV hold), .int every]) := hR
    have hP' : H pa = some (.tup [.int p.rest, .bl p.kept, .bl p.blocked, .bl p.stuck, .int p.pending, .int p.quick]) := hP
    have e0 : 0 ≤ every := ok.e0
    have e9 : every ≤ 9 := ok.e9
    have nd := sc_with_full.nd
    refine ⟨_, pss_cons (ps_asg (pv 0) (pg_tup rfl (pgs_cons (gn 3 nd) (pgs_cons (gn 4 nd) (pgs_cons (gn 5 nd) pgs_nil)))))
      (C8.pss_cut (ps_asg (pv 1) (pg_tup rfl (pgs_cons (gn 6 nd) (pgs_cons (gn 7 nd) (pgs_cons (gn 8 nd) (pgs_cons (gn 9 nd) (pgs_cons (gn 10 nd) (pgs_cons (gn 11 nd) pgs_nil))))))))
      (pss_cons (ps_if (pt_cmpR op_eq (pv 2) pe_int (nomark _)) (pss_one (ps_ret (pe_tup (pa_cons (pv 1) (pa_cons pe_int pa_nil))))) pss_nil)
      (pss_cons (ss 12 nd (bi (call_min2 rfl) T.f_min (pa_cons (pv 11) (pa_cons (pv 2) pa_nil))))
      (pss_cons (ss 13 nd (pe_op op_sub (pv 2) (pv 12)))
      (C8.pss_cut (ss 10 nd (pe_ifExp (pt_cmpR op_gt (pv 12) pe_int (nomark _)) pe_int (pv 10)))
      (pss_cons (ss 14 nd (pv 12))
      (C8.pss_cut (ps_if (pt_cmpR op_gt (pv 5) pe_int (nomark _))
          (pss_cons (ps_aug (i := 14) nd rfl (Or.inl rfl) (pe_op op_fdiv (pe_op op_add (pv 10) (pv 13)) (pv 5)) ip_add)
          (pss_one (ss 10 nd (pe_op op_mod (pe_op op_add (pv 10) (pv 13)) (pv 5))))) pss_nil)
      (C8.pss_cut (ps_if (pt_cmpR op_eq (pv 4) pe_str (nomark _))
          (pss_cons (ss 8 nd pe_bl)
          (pss_one (ss 9 nd (pe_and (pe_cmpR op_gt (pv 13) pe_int (nomark _)) (pe_one (pe_or (pe_cmpR op_eq (pv 5) pe_int (nomark _)) (pe_one (pe_cmpR op_gt (pv 10) pe_int (nomark _))))))))) pss_nil)
      (C8.pss_cut (ps_if (pt_cmpR op_eq (pv 4) pe_str (nomark _))
          (pss_one (ss 9 nd (pe_and (pv 9) (pe_one (pe_cmpR op_eq (pv 14) pe_int (nomark _)))))) pss_nil)
      (pss_one (ps_ret (pe_tup (pa_cons (pe_tup (pa_cons (pv 6) (pa_cons (pv 7) (pa_cons (pv 8) (pa_cons (pv 9) (pa_cons (pv 10) (pa_cons (pe_op op_sub (pv 11) (pv 12)) pa_nil))))))) (pa_cons (pv 14) pa_nil)))))))))))))), ?_⟩
    refine ⟨_, rfl, ra, _, rfl, SqT.of hR, rfl, _, _, rfl, _, _, rfl, _, _, rfl, rfl, ?_⟩
    refine ⟨fun σ H' => σ = [some (.ref ra), some (.ref pa), some (.int many), some (.int size), some (.str (hV hold)), some (.int every), some (.int p.rest), some (.bl p.kept), some (.bl p.blocked), some (.bl p.stuck), some (.int p.pending), some (.int p.quick), none, none, none] ∧ H = H',
      ⟨_, rfl, pa, _, rfl, SqT.of hP', rfl, _, _, rfl, _, _, rfl, _, _, rfl, _, _, rfl, _, _, rfl, _, _, rfl, rfl, by kernel_rfl, rfl⟩, ?_⟩
    rintro _ _ ⟨rfl, rfl⟩
    refine ⟨_, rfl, rfl, _, rfl, ?_⟩
    by_cases hm : many = 0
    · subst hm
      refine iteD rfl ?_
      refine ⟨_, rfl, (by show 2 ≤ sizeLine; decide), fun t ht => ?_⟩
      have e := LW.wf_zero ⟨size, hold, every⟩ p
      refine q t pa _ (same_new (Same.refl H) ht) ?_ ?_
      · rw [e, upd_same]
      · rw [e]
        exact upd_new ht hP
    · refine iteDn (fun z => hm (V.int.inj z)) ?_
      refine ⟨_, rfl, _, rfl, _, _, rfl, ?_⟩
      rw [min_eq]
      refine ⟨_, rfl, _, rfl, _, _, rfl, rfl, ?_⟩
      generalize hsoon : min p.quick many = soon
      -- pending
      refine ⟨fun σ H' => σ = [some (.ref ra), some (.ref pa), some (.int many), some (.int size), some (.str (hV hold)), some (.int every), some (.int p.rest), some (.bl p.kept), some (.bl p.blocked), some (.bl p.stuck), some (.int (if soon > 0 then 0 else p.pending)), some (.int p.quick), some (.int soon), some (.int (many - soon)), none] ∧ H = H', ?_, ?_⟩
      · refine ⟨_, rfl, _, _, rfl, rfl, _, rfl, ?_⟩
        by_cases hs : (0 : Int) < soon
        · refine iteD hs ?_
          rw [if_pos hs]
          exact ⟨by kernel_rfl, rfl⟩
        · refine iteDn hs ⟨_, rfl, ?_⟩
          rw [if_neg hs]
          exact ⟨by kernel_rfl, rfl⟩
      rintro _ _ ⟨rfl, rfl⟩
      generalize hpd : (if soon > 0 then (0 : Int) else p.pending) = pd
      refine ⟨_, rfl, ?_⟩
      -- if every > 0
      refine ⟨fun σ H'' => σ = [some (.ref ra), some (.ref pa), some (.int many), some (.int size), some (.str (hV hold)), some (.int every), some (.int p.rest), some (.bl p.kept), some (.bl p.blocked), some (.bl p.stuck), some (.int (if every > 0 then (pd + (many - soon)) % every else pd)), some (.int p.quick), some (.int soon), some (.int (many - soon)), some (.int (if every > 0 then soon + (pd + (many - soon)) / every else soon))] ∧ H = H'', ?_, ?_⟩
      · refine ⟨_, rfl, _, _, rfl, rfl, _, rfl, ?_⟩
        by_cases he : (0 : Int) < every
        · refine iteD he ?_
          rw [if_pos he, if_pos he]
          refine ⟨_, rfl, _, rfl, _, rfl, _, _, rfl, rfl, _, rfl, _, _, rfl, rfl, ⟨he, by omega⟩, _, _, rfl, rfl, ?_⟩
          exact ⟨_, rfl, _, rfl, _, _, rfl, rfl, _, rfl, _, _, rfl, rfl, he, by kernel_rfl, rfl⟩
        · refine iteDn he ?_
          rw [if_neg he, if_neg he]
          exact ⟨by kernel_rfl, rfl⟩
      rintro _ _ ⟨rfl, rfl⟩
      generalize hpd' : (if every > 0 then (pd + (many - soon)) % every else pd) = pd'
      generalize htd : (if every > 0 then soon + (pd + (many - soon)) / every else soon) = td
      -- if hold == 'all'
      refine ⟨fun σ H'' => σ = [some (.ref ra), some (.ref pa), some (.int many), some (.int size), some (.str (hV hold)), some (.int every), some (.int p.rest), some (.bl p.kept), some (.bl (if hold = .all then true else p.blocked)), some (.bl (if hold = .all then decide (many - soon > 0 ∧ (every = 0 ∨ pd' > 0)) else p.stuck)), some (.int pd'), some (.int p.quick), some (.int soon), some (.int (many - soon)), some (.int td)] ∧ H = H'', ?_, ?_⟩
      · refine ⟨_, rfl, rfl, _, rfl, ?_⟩
        by_cases hh : hold = .all
        · subst hh
          refine iteD rfl ?_
          rw [if_pos rfl, if_pos rfl]
          refine ⟨_, rfl, _, _, rfl, rfl, _, rfl, ?_⟩
          by_cases hlt : (0 : Int) < many - soon
          · refine iteD hlt ⟨_, rfl, rfl, _, rfl, ?_⟩
            by_cases hz : every = 0
            · refine iteD (congrArg V.int hz) ?_
              have e : decide (many - soon > 0 ∧ (every = 0 ∨ pd' > 0)) = true := decide_eq_true ⟨hlt, Or.inl hz⟩
              rw [e]
              exact ⟨by kernel_rfl, rfl⟩
            · refine iteDn (fun z => hz (V.int.inj z)) ⟨_, rfl, _, _, rfl, rfl, ?_⟩
              have e : decide (many - soon > 0 ∧ (every = 0 ∨ pd' > 0)) = decide (0 < pd') := decide_eq_decide.mpr ⟨fun z => z.2.resolve_left hz, fun z => ⟨hlt, Or.inr z⟩⟩
              rw [e]
              exact ⟨by kernel_rfl, rfl⟩
          · refine iteDn hlt ?_
            have e : decide (many - soon > 0 ∧ (every = 0 ∨ pd' > 0)) = false := decide_eq_false fun z => hlt z.1
            rw [e]
            exact ⟨by kernel_rfl, rfl⟩
        · have hs : ¬ V.str (hV hold) = V.str "all" := by cases hold <;> first | exact absurd rfl hh | decide +kernel
          refine iteDn hs ?_
          rw [if_neg hh, if_neg hh]
          exact ⟨by kernel_rfl, rfl⟩
      rintro _ _ ⟨rfl, rfl⟩
      generalize hbk : (if hold = .all then true else p.blocked) = bk
      generalize hst : (if hold = .all then decide (many - soon > 0 ∧ (every = 0 ∨ pd' > 0)) else p.stuck) = st
      -- if hold == 'partial'
      refine ⟨fun σ H'' => σ = [some (.ref ra), some (.ref pa), some (.int many), some (.int size), some (.str (hV hold)), some (.int every), some (.int p.rest), some (.bl p.kept), some (.bl bk), some (.bl (if hold = .part then st && decide (td = 0) else st)), some (.int pd'), some (.int p.quick), some (.int soon), some (.int (many - soon)), some (.int td)] ∧ H = H'', ?_, ?_⟩
      · refine ⟨_, rfl, rfl, _, rfl, ?_⟩
        by_cases hh : hold = .part
        · subst hh
          refine iteD rfl ?_
          rw [if_pos rfl]
          refine ⟨_, rfl, st, rfl, ?_⟩
          cases st
          · exact iteF ⟨by kernel_rfl, rfl⟩
          · refine iteT ⟨_, rfl, rfl, ?_⟩
            have e : decide (V.int td = V.int 0) = (true && decide (td = 0)) := by
              rw [Bool.true_and]
              exact decide_eq_decide.mpr ⟨V.int.inj, congrArg V.int⟩
            rw [e]
            exact ⟨by kernel_rfl, rfl⟩
        · have hs : ¬ V.str (hV hold) = V.str "partial" := by cases hold <;> first | exact absurd rfl hh | decide +kernel
          refine iteDn hs ?_
          rw [if_neg hh]
          exact ⟨by kernel_rfl, rfl⟩
      rintro _ _ ⟨rfl, rfl⟩
      have e : LW.wf ⟨size, hold, every⟩ p many = (⟨p.rest, p.kept, bk, if hold = .part then st && decide (td = 0) else st, pd', p.quick - soon⟩, td) := by
        unfold LW.wf
        rw [if_neg hm]
        simp only [hsoon, hpd, hpd', htd, hbk, hst]
      refine ⟨_, rfl, _, rfl, _, rfl, _, rfl, _, rfl, _, rfl, _, rfl, _, _, rfl, rfl, (by show 6 ≤ sizeLine; decide), fun p1 h1 => ⟨_, rfl, (by show 2 ≤ sizeLine; decide), fun t ht => ?_⟩⟩
      refine q t p1 _ (same_new (same_new (Same.refl _) h1) ht) ?_ ?_
      · rw [e, upd_same]
      · rw [e]
        exact upd_new ht upd_same
end
end Lw

namespace Lw
open PySem PySem.Spec PyProof.Rows L2
open LW (Hold Mode Pol Cfg Write Side Scene Parts Way Rule)
theorem RuleAt.mono {H H' : Hp} {a : Addr} {r : Rule} (h : RuleAt H a r) (s : Same H H') : RuleAt H' a r := s _ _ h
theorem PartsAt.mono {H H' : Hp} {a : Addr} {p : Parts} (h : PartsAt H a p) (s : Same H H') : PartsAt H' a p := s _ _ h
theorem PartsAt.lit {H : Hp} {a : Addr} {p : Parts} (h : PartsAt H a p) : H a = some (.tup [.int p.rest, .bl p.kept, .bl p.blocked, .bl p.stuck, .int p.pending, .int p.quick]) := h
theorem cut6a {a b c d e f : V} : ¬ (HT.sIx [a, b, c, d, e, f].length 0 (some 2) = 0 ∧ HT.sIx [a, b, c, d, e, f].length [a, b, c, d, e, f].length none = [a, b, c, d, e, f].length) := by
  show ¬ (HT.sIx 6 0 (some 2) = 0 ∧ HT.sIx 6 6 none = 6)
  decide
theorem cut6b {a b c d e f : V} : ¬ (HT.sIx [a, b, c, d, e, f].length 0 none = 0 ∧ HT.sIx [a, b, c, d, e, f].length [a, b, c, d, e, f].length (some 2) = [a, b, c, d, e, f].length) := by
  show ¬ (HT.sIx 6 0 none = 0 ∧ HT.sIx 6 6 (some 2) = 6)
  decide
theorem cut6c {a b c d e f : V} : ¬ (HT.sIx [a, b, c, d, e, f].length 0 (some 4) = 0 ∧ HT.sIx [a, b, c, d, e, f].length [a, b, c, d, e, f].length none = [a, b, c, d, e, f].length) := by
  show ¬ (HT.sIx 6 0 (some 4) = 0 ∧ HT.sIx 6 6 none = 6)
  decide
theorem cut4a {a b c d : V} : ¬ (HT.sIx [a, b, c, d].length 0 none = 0 ∧ HT.sIx [a, b, c, d].length [a, b, c, d].length (some 2) = [a, b, c, d].length) := by
  show ¬ (HT.sIx 4 0 none = 0 ∧ HT.sIx 4 4 (some 2) = 4)
  decide
section
variable {P : Program} {w : World} {K : PySem.W.Frag} {mg : Str → Option Value} {base : Heap}
def spWP : Sp := fun vs H Q _ => ∃ (ra pa : Addr) (r : Rule) (p : Parts), vs = [.ref ra, .ref pa] ∧ RuleAt H ra r ∧ PartsAt H pa p ∧
  ∀ (t a : Addr) (H' : Hp), Same H H' → H' t = some (.tup [.ref a, .int (LW.wp r p).2]) → PartsAt H' a (LW.wp r p).1 → Q (.ref t) H'
theorem c_with_partial (T : Txt K mg) : Con P w K mg base 1 (He.ga K "with_partial") ["rules", "parts"] [] spWP := by
  refine con_of T.d_with_partial rfl rfl sc_with_partial (fun _ _ _ _ _ _ us hl => match us, hl with | [_, _], _ => rfl) (fun vs H Q E h => ?_) (fun cdv A outer s H vs Q E hr h => ?_)
  · obtain ⟨ra, pa, r, p, rfl, _⟩ := h
    rfl
  · obtain ⟨ra, pa, ⟨size, hold, every⟩, p, rfl, hR, hP, q⟩ := h
    have hR : H ra = some (.tup [.int size, .str (hV hold), .int every]) := hR
    have hP := hP.lit
    have nd := sc_with_partial.nd
    refine ⟨_, pss_cons (ss 2 nd (pe_cmpR op_ne (pe_ix ix_tup (pv 0) pe_int (fun _ _ => rfl)) pe_str (nomark _)))
      (pss_cons (ps_if (pt_cmpR op_gt (pe_ix ix_tup (pv 1) pe_int (fun _ _ => rfl)) pe_int (nomark _))
        (pss_one (ps_ret (pe_tup (pa_cons (pe_tup (pa_cons pe_int (pa_cons pe_bl (pa_cons (pv 2) (pa_cons pe_bl (pa_cons pe_int (pa_cons (pe_op op_sub (pe_ix ix_tup (pv 1) pe_int (fun _ _ => rfl)) pe_int) pa_nil))))))) (pa_cons pe_int pa_nil))))) pss_nil)
      (pss_one (ps_ret (pe_tup (pa_cons (pe_tup (pa_cons pe_int (pa_cons pe_bl (pa_cons (pv 2) (pa_cons (pv 2) (pa_cons (pe_ix ix_tup (pv 1) pe_int (fun _ _ => rfl)) (pa_cons pe_int pa_nil))))))) (pa_cons pe_int pa_nil)))))), ?_⟩
    refine ⟨_, rfl, ra, _, 1, _, rfl, rfl, SqT.of hR, atI_nat (j := 1) rfl, rfl, ?_⟩
    have hb : (!decide (V.str (hV hold) = V.str "off")) = decide (hold ≠ .off) := by cases hold <;> decide +kernel
    rw [hb]
    generalize hbk : decide (hold ≠ .off) = bk
    refine ⟨_, rfl, pa, _, 5, _, rfl, rfl, SqT.of hP, atI_nat (j := 5) rfl, _, _, rfl, rfl, _, rfl, ?_⟩
    by_cases hq : (0 : Int) < p.quick
    · refine iteD hq ⟨_, rfl, _, rfl, pa, _, 5, _, rfl, rfl, SqT.of hP, atI_nat (j := 5) rfl, _, _, rfl, rfl, (by show 6 ≤ sizeLine; decide), fun p1 h1 => ⟨(by show 2 ≤ sizeLine; decide), fun t ht => ?_⟩⟩
      have e : LW.wp ⟨size, hold, every⟩ p = (⟨0, false, bk, false, 0, p.quick - 1⟩, 1) := by
        unfold LW.wp
        simp only
        rw [hbk, if_pos hq]
      refine q t p1 _ (same_new (same_new (Same.refl _) h1) ht) ?_ ?_
      · rw [e, upd_same]
      · rw [e]
        exact upd_new ht upd_same
    · refine iteDn hq ⟨_, rfl, _, rfl, _, rfl, pa, _, 4, _, rfl, rfl, SqT.of hP, atI_nat (j := 4) rfl, (by show 6 ≤ sizeLine; decide), fun p1 h1 => ⟨(by show 2 ≤ sizeLine; decide), fun t ht => ?_⟩⟩
      have e : LW.wp ⟨size, hold, every⟩ p = (⟨0, false, bk, bk, p.pending, 0⟩, 0) := by
        unfold LW.wp
        simp only
        rw [hbk, if_neg hq]
      refine q t p1 _ (same_new (same_new (Same.refl _) h1) ht) ?_ ?_
      · rw [e, upd_same]
      · rw [e]
        exact upd_new ht upd_same
/-- after_write -/
def spAW : Sp := fun vs H Q _ => ∃ (ra pa : Addr) (r : Rule) (p : Parts) (len : Int) (mode : Mode), vs = [.ref ra, .ref pa, .int len, .str (mV mode)] ∧ RuleAt H ra r ∧ PartsAt H pa p ∧ RuleOk r ∧
  ∀ (t a : Addr) (H' : Hp), Same H H' → H' t = some (.tup [.ref a, .int (LW.aw3 r p len mode).2.1, .int (LW.aw3 r p len mode).2.2]) → PartsAt H' a (LW.aw3 r p len mode).1 → Q (.ref t) H'
theorem c_after_write (T : Txt K mg) : Con P w K mg base 2 (He.ga K "after_write") ["rules", "parts", "length", "mode"] [] spAW := by
  refine con_of T.d_after_write rfl rfl sc_after_write (fun _ _ _ _ _ _ us hl => match us, hl with | [_, _, _, _], _ => rfl) (fun vs H Q E h => ?_) (fun cdv A outer s H vs Q E hr h => ?_)
  · obtain ⟨ra, pa, r, p, len, mode, rfl, _⟩ := h
    rfl
  · obtain ⟨ra, pa, r, p, len, mode, rfl, hR, hP, ok, q⟩ := h
    have hR' : H ra = some (.tup [.int r.size, .str (hV r.hold), .int r.every]) := hR
    have hP := hP.lit
    have nd := sc_after_write.nd
    have s1 : 1 ≤ r.size := ok.s1
    have s2 : r.size ≤ 1000000 := ok.s2
    refine ⟨_, pss_cons (ps_asg (bi call_divmod T.f_divmod (pa_cons (pe_op op_add (pe_ix ix_tup (pv 1) pe_int (fun _ _ => rfl)) (pv 2)) (pa_cons (pe_ix ix_tup (pv 0) pe_int (fun _ _ => rfl)) pa_nil)))
        (pg_tup rfl (pgs_cons (gn 4 nd) (pgs_cons (gn 5 nd) pgs_nil))))
      (C8.pss_cut (ps_asg (call_c (c_with_full T) hr T.g_with_full (pa_cons (pv 0) (pa_cons (pe_op op_catA (pe_tup (pa_cons (pv 5) (pa_cons pe_bl pa_nil))) (pe_slice sl_tupA (pv 1) (po_some pe_int) po_none)) (pa_cons (pv 4) pa_nil))))
        (pg_tup rfl (pgs_cons (gn 1 nd) (pgs_cons (gn 6 nd) pgs_nil))))
      (pss_cons (ps_if (PW.pt (pw_and (pt_cmpR op_gt (pv 5) pe_int (nomark _)) (pw_and1 (pt_cmpR op_eq (pv 3) pe_str (nomark _)))))
        (pss_one (ps_ret (pe_tup (pa_cons (pe_op op_catA (pe_tup (pa_cons (pv 5) (pa_cons pe_bl pa_nil))) (pe_slice sl_tupA (pv 1) (po_some pe_int) po_none)) (pa_cons (pv 4) (pa_cons (pv 6) pa_nil)))))) pss_nil)
      (pss_cons (ps_if (PW.pt (pw_and (pt_cmpR op_gt (pv 5) pe_int (nomark _)) (pw_and1 (PW.pt (pw_or (pt_cmpR op_eq (pv 3) pe_str (nomark _)) (pw_or1 (pt_not (pt_val (pe_ix ix_tup (pv 1) pe_int (fun _ _ => rfl))))))))))
        (pss_cons (ps_asg (call_c (c_with_partial T) hr T.g_with_partial (pa_cons (pv 0) (pa_cons (pv 1) pa_nil))) (pg_tup rfl (pgs_cons (gn 1 nd) (pgs_cons (gn 7 nd) pgs_nil))))
          (pss_one (ps_ret (pe_tup (pa_cons (pv 1) (pa_cons (pe_op op_add (pv 4) pe_int) (pa_cons (pe_op op_add (pv 6) (pv 7)) pa_nil))))))) pss_nil)
      (pss_one (ps_ret (pe_tup (pa_cons (pv 1) (pa_cons (pv 4) (pa_cons (pv 6) pa_nil))))))))), ?_⟩
    refine ⟨_, rfl, pa, _, 0, _, rfl, rfl, SqT.of hP, atI_nat (j := 0) rfl, _, rfl, _, _, rfl, rfl, _, rfl, ra, _, 0, _, rfl, rfl, SqT.of hR', atI_nat (j := 0) rfl, _, _, rfl, ⟨by omega, by omega⟩, fun d hd => ?_⟩
    refine ⟨d, _, rfl, SqT.of upd_same, rfl, _, _, rfl, _, _, rfl, rfl, ?_⟩
    generalize hmany : (p.rest + len) / r.size = many
    generalize hrest : (p.rest + len) % r.size = rest
    have sd : Same H (upd H d (.tup [.int many, .int rest])) := same_new (Same.refl H) hd
    generalize upd H d (.tup [.int many, .int rest]) = H1 at sd
    generalize hf : LW.wf r { p with rest := rest, kept := false } many = f
    refine ⟨fun σ H' => ∃ fa, σ = [some (.ref ra), some (.ref fa), some (.int len), some (.str (mV mode)), some (.int many), some (.int rest), some (.int f.2), none] ∧ Same H1 H' ∧ PartsAt H' fa f.1, ?_, ?_⟩
    · refine ⟨_, rfl, _, rfl, (by show 2 ≤ sizeLine; decide), fun p1 h1 => ?_⟩
      have s2 : Same H (upd H1 p1 (.tup [.int rest, .bl false])) := same_new sd h1
      refine ⟨_, rfl, _, rfl, pa, _, rfl, SqT.of (s2 _ _ hP), fun z => absurd z cut6a, fun _ p2 h2 => ?_⟩
      have s3 := same_new s2 h2 (o := .tup (cutV [.int p.rest, .bl p.kept, .bl p.blocked, .bl p.stuck, .int p.pending, .int p.quick] (some 2) none))
      refine ⟨p1, p2, _, _, rfl, rfl, SqT.of (upd_new h2 upd_same), SqT.of upd_same, (by show 6 ≤ sizeLine; decide), fun z => (nomatch z), fun _ z => (nomatch z), fun _ _ p3 h3 => ?_⟩
      have s4 := same_new (same_new (same_new (Same.refl H1) h1 (o := .tup [.int rest, .bl false])) h2 (o := .tup (cutV [.int p.rest, .bl p.kept, .bl p.blocked, .bl p.stuck, .int p.pending, .int p.quick] (some 2) none))) h3 (o := .tup ([.int rest, .bl false] ++ cutV [.int p.rest, .bl p.kept, .bl p.blocked, .bl p.stuck, .int p.pending, .int p.quick] (some 2) none))
      refine ⟨_, rfl, ra, p3, r, { p with rest := rest, kept := false }, many, rfl, hR.mono (sd.trans s4), upd_same, ok, fun t a H2 s5 ht ha => ?_⟩
      rw [hf] at ht ha
      refine ⟨t, _, rfl, SqT.of ht, rfl, _, _, rfl, _, _, rfl, rfl, a, by kernel_rfl, s4.trans s5, ha⟩
    · rintro _ H2 ⟨fa, rfl, s2, hfa⟩
      have s3 := sd.trans s2
      have hfl := hfa.lit
      refine ⟨_, rfl, _, _, rfl, rfl, _, rfl, ?_⟩
      have ea : LW.aw3 r p len mode = if rest > 0 ∧ mode = .more then ({ f.1 with rest := rest, kept := true }, many, f.2) else if rest > 0 ∧ (mode = .push ∨ f.1.blocked = false) then ((LW.wp r f.1).1, many + 1, f.2 + (LW.wp r f.1).2) else (f.1, many, f.2) := by
        unfold LW.aw3
        simp only [hmany, hrest, hf]
      rw [ea] at q
      have plain : ¬ (rest > 0 ∧ mode = .more) → ¬ (rest > 0 ∧ (mode = .push ∨ f.1.blocked = false)) → ∀ t, H2 t = none → Q (.ref t) (upd H2 t (.tup [.ref fa, .int many, .int f.2])) := by
        intro h1 h2 t ht
        rw [if_neg h1, if_neg h2] at q
        exact q t fa _ (same_new s3 ht) upd_same (upd_new ht hfa)
      by_cases hr0 : (0 : Int) < rest
      · refine iteD hr0 ⟨_, rfl, rfl, _, rfl, ?_⟩
        by_cases hm : mode = .more
        · subst hm
          refine iteD rfl ⟨_, rfl, (by show 2 ≤ sizeLine; decide), fun p1 h1 => ?_⟩
          refine ⟨_, rfl, _, rfl, fa, _, rfl, SqT.of (upd_new h1 hfl), fun z => absurd z cut6a, fun _ p2 h2 => ?_⟩
          refine ⟨p1, p2, _, _, rfl, rfl, SqT.of (upd_new h2 upd_same), SqT.of upd_same, (by show 6 ≤ sizeLine; decide), fun z => (nomatch z), fun _ z => (nomatch z), fun _ _ p3 h3 => ?_⟩
          refine ⟨_, rfl, _, rfl, (by show 3 ≤ sizeLine; decide), fun t ht => ?_⟩
          rw [if_pos ⟨hr0, rfl⟩] at q
          exact q t p3 _ (same_new (same_new (same_new (same_new s3 h1) h2) h3) ht) upd_same (upd_new ht upd_same)
        · have hs : ¬ V.str (mV mode) = V.str "more" := by cases mode <;> first | exact absurd rfl hm | decide +kernel
          refine iteDn hs ?_
          refine ⟨_, rfl, _, _, rfl, rfl, _, rfl, iteD hr0 ⟨_, rfl, rfl, _, rfl, ?_⟩⟩
          by_cases hp : mode = .push
          · subst hp
            refine iteD rfl (iteT ?_)
            refine ⟨_, rfl, _, rfl, ra, fa, r, f.1, rfl, hR.mono s3, hfa, fun t a H3 s4 ht ha => ?_⟩
            refine ⟨t, _, rfl, SqT.of ht, rfl, _, _, rfl, _, _, rfl, rfl, _, rfl, _, rfl, _, _, rfl, rfl, _, rfl, _, rfl, _, _, rfl, rfl, (by show 3 ≤ sizeLine; decide), fun t ht => ?_⟩
            rw [if_neg (fun z => hm z.2), if_pos ⟨hr0, Or.inl rfl⟩] at q
            exact q t a _ (same_new (s3.trans s4) ht) upd_same (upd_new ht ha)
          · have hs : ¬ V.str (mV mode) = V.str "push" := by cases mode <;> first | exact absurd rfl hp | decide +kernel
            refine iteDn hs ⟨_, rfl, fa, _, 2, _, rfl, rfl, SqT.of hfl, atI_nat (j := 2) rfl, _, rfl, ?_⟩
            cases hb : f.1.blocked with
            | false =>
              refine iteT ?_
              refine ⟨_, rfl, _, rfl, ra, fa, r, f.1, rfl, hR.mono s3, hfa, fun t a H3 s4 ht ha => ?_⟩
              refine ⟨t, _, rfl, SqT.of ht, rfl, _, _, rfl, _, _, rfl, rfl, _, rfl, _, rfl, _, _, rfl, rfl, _, rfl, _, rfl, _, _, rfl, rfl, (by show 3 ≤ sizeLine; decide), fun t ht => ?_⟩
              rw [if_neg (fun z => hm z.2), if_pos ⟨hr0, Or.inr hb⟩] at q
              exact q t a _ (same_new (s3.trans s4) ht) upd_same (upd_new ht ha)
            | true =>
              refine iteF ⟨_, rfl, _, rfl, _, rfl, (by show 3 ≤ sizeLine; decide), ?_⟩
              exact plain (fun z => hm z.2) (fun z => z.2.elim hp (fun z => by rw [hb] at z; cases z))
      · refine iteDn hr0 ⟨_, rfl, _, _, rfl, rfl, _, rfl, iteDn hr0 ⟨_, rfl, _, rfl, _, rfl, (by show 3 ≤ sizeLine; decide), ?_⟩⟩
        exact plain (fun z => hr0 z.1) (fun z => hr0 z.1)
end
end Lw

namespace Lw
open PySem PySem.Spec PyProof.Rows L2
open LW (Hold Mode Pol Cfg Write Side Scene Parts Way Rule)
section
variable {P : Program} {w : World} {K : PySem.W.Frag} {mg : Str → Option Value} {base : Heap}
def spAC : Sp := fun vs H Q _ => ∃ (ra pa : Addr) (r : Rule) (p : Parts), vs = [.ref ra, .ref pa] ∧ RuleAt H ra r ∧ PartsAt H pa p ∧
  ∀ (t a : Addr) (H' : Hp), Same H H' → H' t = some (.tup [.ref a, .int (LW.ac3 r p).2.1, .int (LW.ac3 r p).2.2]) → PartsAt H' a (LW.ac3 r p).1 → Q (.ref t) H'
theorem c_after_clearing (T : Txt K mg) : Con P w K mg base 2 (He.ga K "after_clearing") ["rules", "parts"] [] spAC := by
  refine con_of T.d_after_clearing rfl rfl sc_after_clearing (fun _ _ _ _ _ _ us hl => match us, hl with | [_, _], _ => rfl) (fun vs H Q E h => ?_) (fun cdv A outer s H vs Q E hr h => ?_)
  · obtain ⟨ra, pa, r, p, rfl, _⟩ := h
    rfl
  · obtain ⟨ra, pa, r, p, rfl, hR, hP0, q⟩ := h
    have hP := hP0.lit
    have nd := sc_after_clearing.nd
    refine ⟨_, pss_cons (ps_if (PW.pt (pw_or (pt_not (pt_val (pe_ix ix_tup (pv 1) pe_int (fun _ _ => rfl)))) (pw_or1 (pt_val (pe_ix ix_tup (pv 1) pe_int (fun _ _ => rfl))))))
        (pss_one (ps_ret (pe_tup (pa_cons (pv 1) (pa_cons pe_int (pa_cons pe_int pa_nil)))))) pss_nil)
      (pss_cons (ss 1 nd (pe_op op_catA (pe_op op_catA (pe_slice sl_tupA (pv 1) po_none (po_some pe_int)) (pe_tup (pa_cons pe_bl (pa_cons pe_bl pa_nil)))) (pe_slice sl_tupA (pv 1) (po_some pe_int) po_none)))
      (pss_cons (ps_if (PW.pt (pw_or (pt_cmpR op_eq (pe_ix ix_tup (pv 1) pe_int (fun _ _ => rfl)) pe_int (nomark _)) (pw_or1 (pt_val (pe_ix ix_tup (pv 1) pe_int (fun _ _ => rfl))))))
        (pss_one (ps_ret (pe_tup (pa_cons (pv 1) (pa_cons pe_int (pa_cons pe_int pa_nil)))))) pss_nil)
      (pss_cons (ps_asg (call_c (c_with_partial T) hr T.g_with_partial (pa_cons (pv 0) (pa_cons (pv 1) pa_nil))) (pg_tup rfl (pgs_cons (gn 1 nd) (pgs_cons (gn 2 nd) pgs_nil))))
      (pss_one (ps_ret (pe_tup (pa_cons (pv 1) (pa_cons pe_int (pa_cons (pv 2) pa_nil))))))))), ?_⟩
    refine ⟨_, rfl, pa, _, 2, _, rfl, rfl, SqT.of hP, atI_nat (j := 2) rfl, _, rfl, ?_⟩
    have e : LW.ac3 r p = if p.blocked = false ∨ p.stuck = true then (p, 0, 0) else if p.rest = 0 ∨ p.kept = true then ({ p with blocked := false, stuck := false }, 0, 0) else ((LW.wp r { p with blocked := false, stuck := false }).1, 1, (LW.wp r { p with blocked := false, stuck := false }).2) := rfl
    rw [e] at q
    cases hb : p.blocked with
    | false =>
      refine iteT (iteT ⟨_, rfl, (by show 3 ≤ sizeLine; decide), fun t ht => ?_⟩)
      rw [if_pos (Or.inl hb)] at q
      exact q t pa _ (same_new (Same.refl _) ht) upd_same (upd_new ht hP0)
    | true =>
      refine iteF ⟨_, rfl, pa, _, 3, _, rfl, rfl, SqT.of hP, atI_nat (j := 3) rfl, _, rfl, ?_⟩
      cases hs : p.stuck with
      | true =>
        refine iteT ⟨_, rfl, (by show 3 ≤ sizeLine; decide), fun t ht => ?_⟩
        rw [if_pos (Or.inr hs)] at q
        exact q t pa _ (same_new (Same.refl _) ht) upd_same (upd_new ht hP0)
      | false =>
        have hn : ¬ (p.blocked = false ∨ p.stuck = true) := by rw [hb, hs]; decide
        rw [if_neg hn] at q
        refine iteF ?_
        refine ⟨_, rfl, _, rfl, pa, _, rfl, SqT.of hP, fun z => absurd z cut6b, fun _ p1 h1 => ?_⟩
        refine ⟨(by show 2 ≤ sizeLine; decide), fun p2 h2 => ?_⟩
        refine ⟨p1, p2, _, _, rfl, rfl, SqT.of (upd_new h2 upd_same), SqT.of upd_same, (by show 4 ≤ sizeLine; decide), fun z => (nomatch z), fun _ z => (nomatch z), fun _ _ p3 h3 => ?_⟩
        have s3 := same_new (same_new (same_new (Same.refl H) h1 (o := .tup (cutV [.int p.rest, .bl p.kept, .bl p.blocked, .bl p.stuck, .int p.pending, .int p.quick] none (some 2)))) h2 (o := .tup [.bl false, .bl false])) h3 (o := .tup (cutV [.int p.rest, .bl p.kept, .bl p.blocked, .bl p.stuck, .int p.pending, .int p.quick] none (some 2) ++ [.bl false, .bl false]))
        refine ⟨_, rfl, _, rfl, pa, _, rfl, SqT.of (s3 _ _ hP), fun z => absurd z cut6c, fun _ p4 h4 => ?_⟩
        refine ⟨p3, p4, _, _, rfl, rfl, SqT.of (upd_new h4 upd_same), SqT.of upd_same, (by show 6 ≤ sizeLine; decide), fun z => (nomatch z), fun _ z => (nomatch z), fun _ _ p5 h5 => ?_⟩
        have s5 := same_new (same_new s3 h4 (o := .tup (cutV [.int p.rest, .bl p.kept, .bl p.blocked, .bl p.stuck, .int p.pending, .int p.quick] (some 4) none))) h5 (o := .tup ((cutV [.int p.rest, .bl p.kept, .bl p.blocked, .bl p.stuck, .int p.pending, .int p.quick] none (some 2) ++ [.bl false, .bl false]) ++ cutV [.int p.rest, .bl p.kept, .bl p.blocked, .bl p.stuck, .int p.pending, .int p.quick] (some 4) none))
        have hN : PartsAt (upd (upd (upd (upd (upd H p1 (.tup (cutV [.int p.rest, .bl p.kept, .bl p.blocked, .bl p.stuck, .int p.pending, .int p.quick] none (some 2)))) p2 (.tup [.bl false, .bl false])) p3 (.tup (cutV [.int p.rest, .bl p.kept, .bl p.blocked, .bl p.stuck, .int p.pending, .int p.quick] none (some 2) ++ [.bl false, .bl false]))) p4 (.tup (cutV [.int p.rest, .bl p.kept, .bl p.blocked, .bl p.stuck, .int p.pending, .int p.quick] (some 4) none))) p5 (.tup ((cutV [.int p.rest, .bl p.kept, .bl p.blocked, .bl p.stuck, .int p.pending, .int p.quick] none (some 2) ++ [.bl false, .bl false]) ++ cutV [.int p.rest, .bl p.kept, .bl p.blocked, .bl p.stuck, .int p.pending, .int p.quick] (some 4) none))) p5 { p with blocked := false, stuck := false } := upd_same
        generalize upd (upd (upd (upd (upd H p1 (.tup (cutV [.int p.rest, .bl p.kept, .bl p.blocked, .bl p.stuck, .int p.pending, .int p.quick] none (some 2)))) p2 (.tup [.bl false, .bl false])) p3 (.tup (cutV [.int p.rest, .bl p.kept, .bl p.blocked, .bl p.stuck, .int p.pending, .int p.quick] none (some 2) ++ [.bl false, .bl false]))) p4 (.tup (cutV [.int p.rest, .bl p.kept, .bl p.blocked, .bl p.stuck, .int p.pending, .int p.quick] (some 4) none))) p5 (.tup ((cutV [.int p.rest, .bl p.kept, .bl p.blocked, .bl p.stuck, .int p.pending, .int p.quick] none (some 2) ++ [.bl false, .bl false]) ++ cutV [.int p.rest, .bl p.kept, .bl p.blocked, .bl p.stuck, .int p.pending, .int p.quick] (some 4) none)) = H5 at hN s5
        have hN' := hN.lit
        refine ⟨_, rfl, p5, _, 0, _, rfl, rfl, SqT.of hN', atI_nat (j := 0) rfl, rfl, _, rfl, ?_⟩
        by_cases h0 : p.rest = 0
        · refine iteD (congrArg V.int h0) (iteT ⟨_, rfl, (by show 3 ≤ sizeLine; decide), fun t ht => ?_⟩)
          rw [if_pos (Or.inl h0)] at q
          exact q t p5 _ (same_new s5 ht) upd_same (upd_new ht hN)
        · refine iteDn (fun z => h0 (V.int.inj z)) ⟨_, rfl, p5, _, 1, _, rfl, rfl, SqT.of hN', atI_nat (j := 1) rfl, _, rfl, ?_⟩
          cases hk : p.kept with
          | true =>
            refine iteT ⟨_, rfl, (by show 3 ≤ sizeLine; decide), fun t ht => ?_⟩
            rw [if_pos (Or.inr hk)] at q
            exact q t p5 _ (same_new s5 ht) upd_same (upd_new ht hN)
          | false =>
            refine iteF ?_
            rw [if_neg (by rw [hk]; exact fun z => z.elim h0 (fun z => by cases z))] at q
            refine ⟨_, rfl, _, rfl, ra, p5, r, _, rfl, hR.mono s5, hN, fun t a H6 s6 ht ha => ?_⟩
            refine ⟨t, _, rfl, SqT.of ht, rfl, _, _, rfl, _, _, rfl, rfl, _, rfl, _, rfl, (by show 3 ≤ sizeLine; decide), fun t ht => ?_⟩
            exact q t a _ (same_new (s5.trans s6) ht) upd_same (upd_new ht ha)
/-- after_turn -/
def spAT : Sp := fun vs H Q _ => ∃ (ra pa : Addr) (r : Rule) (p : Parts), vs = [.ref ra, .ref pa] ∧ RuleAt H ra r ∧ PartsAt H pa p ∧
  ∀ (t : Addr) (x y : Int) (H' : Hp), Same H H' → H' t = some (.tup [.int (LW.at4 r p).1, .int (LW.at4 r p).2, .int x, .int y]) → Q (.ref t) H'
def acI (r : Rule) (p : Parts) : Nat → Parts
  | 0 => p
  | n + 1 => (LW.ac3 r (acI r p n)).1
theorem c_after_turn (T : Txt K mg) : Con P w K mg base 3 (He.ga K "after_turn") ["rules", "parts"] [] spAT := by
  refine con_of T.d_after_turn rfl rfl sc_after_turn (fun _ _ _ _ _ _ us hl => match us, hl with | [_, _], _ => rfl) (fun vs H Q E h => ?_) (fun cdv A outer s H vs Q E hr h => ?_)
  · obtain ⟨ra, pa, r, p, rfl, _⟩ := h
    rfl
  · obtain ⟨ra, pa, r, p, rfl, hR, hP, q⟩ := h
    have nd := sc_after_turn.nd
    refine ⟨_, pss_cons (ps_asg2 pe_int (gn 2 nd) (gn 3 nd))
      (pss_cons (ps_for PassesOwn.never rfl (pi_range1 rfl T.f_range (pa_cons pe_int pa_nil)) (gn 4 nd)
        (pss_cons (ps_asg (call_c (c_after_clearing T) hr T.g_after_clearing (pa_cons (pv 0) (pa_cons (pv 1) pa_nil))) (pg_tup rfl (pgs_cons (gn 1 nd) (pgs_cons (gn 5 nd) (pgs_cons (gn 6 nd) pgs_nil)))))
        (pss_cons (ps_aug (i := 2) nd rfl (Or.inl rfl) (pv 5) ip_add) (pss_one (ps_aug (i := 3) nd rfl (Or.inl rfl) (pv 6) ip_add)))))
      (pss_cons (ps_if (pt_cmpR op_eq (pe_ix ix_tup (pv 1) pe_int (fun _ _ => rfl)) pe_int (nomark _))
        (pss_one (ps_ret (pe_tup (pa_cons pe_int (pa_cons (pe_ix ix_tup (pv 1) pe_int (fun _ _ => rfl)) (pa_cons (pv 2) (pa_cons (pv 3) pa_nil))))))) pss_nil)
      (C8.pss_cut (ss 7 nd (pe_ifExp (pt_val (pe_ix ix_tup (pv 1) pe_int (fun _ _ => rfl))) pe_int pe_int))
      (pss_cons (ps_asg (call_c (c_with_partial T) (hr.mono (by decide)) T.g_with_partial (pa_cons (pv 0) (pa_cons (pv 1) pa_nil))) (pg_tup rfl (pgs_cons (gn 1 nd) (pgs_cons (gn 6 nd) pgs_nil))))
      (pss_one (ps_ret (pe_tup (pa_cons pe_int (pa_cons (pe_ix ix_tup (pv 1) pe_int (fun _ _ => rfl)) (pa_cons (pe_op op_add (pv 2) pe_int) (pa_cons (pe_op op_add (pe_op op_add (pv 3) (pv 6)) (pv 7)) pa_nil)))))))))))
      , ?_⟩
    refine ⟨_, rfl, by decide, by decide, for_range (fun i σ H' => ∃ a x y u v z, σ = [some (.ref ra), some (.ref a), some (.int x), some (.int y), u, v, z, none] ∧ Same H H' ∧ PartsAt H' a (acI r p i)) ⟨pa, 0, 0, none, none, none, rfl, Same.refl H, hP⟩ ?_ ?_⟩
    · rintro i σ H1 hi ⟨a, x, y, u, v, z, rfl, s1, ha⟩
      refine ⟨_, rfl, _, rfl, ra, a, r, _, rfl, hR.mono s1, ha, fun t b H2 s2 ht hb => ?_⟩
      refine ⟨t, _, rfl, SqT.of ht, rfl, _, _, rfl, _, _, rfl, _, _, rfl, rfl, _, rfl, _, rfl, _, _, rfl, rfl, _, rfl, _, rfl, _, _, rfl, rfl, ?_⟩
      exact ⟨b, _, _, _, _, _, rfl, s1.trans s2, hb⟩
    · rintro σ H1 ⟨a, x, y, u, v, z, rfl, s1, ha⟩
      have e2 : acI r p ((2 : Int) - 0).toNat = LW.ac r (LW.ac r p) := rfl
      have ha : PartsAt H1 a (LW.ac r (LW.ac r p)) := ha
      generalize hp2 : LW.ac r (LW.ac r p) = p2 at ha
      have hal := ha.lit
      have e : LW.at4 r p = if p2.rest = 0 then (0, p2.quick) else (1, (LW.wp r p2).1.quick) := by
        unfold LW.at4
        simp only [hp2]
      rw [e] at q
      refine ⟨_, rfl, a, _, 0, _, rfl, rfl, SqT.of hal, atI_nat (j := 0) rfl, rfl, _, rfl, ?_⟩
      by_cases h0 : p2.rest = 0
      · refine iteD (congrArg V.int h0) ⟨_, rfl, a, _, 5, _, rfl, rfl, SqT.of hal, atI_nat (j := 5) rfl, _, rfl, _, rfl, (by show 4 ≤ sizeLine; decide), fun t ht => ?_⟩
        rw [if_pos h0] at q
        exact q t _ _ _ (same_new s1 ht) upd_same
      · refine iteDn (fun z => h0 (V.int.inj z)) ?_
        rw [if_neg h0] at q
        refine ⟨fun σ H' => ∃ tm, σ = [some (.ref ra), some (.ref a), some (.int x), some (.int y), u, v, z, some (.int tm)] ∧ H1 = H', ?_, ?_⟩
        · refine ⟨_, rfl, a, _, 1, _, rfl, rfl, SqT.of hal, atI_nat (j := 1) rfl, _, rfl, ?_⟩
          cases hk : p2.kept with
          | true => exact iteT ⟨0, by kernel_rfl, rfl⟩
          | false => exact iteF ⟨1, by kernel_rfl, rfl⟩
        · rintro _ _ ⟨tm, rfl, rfl⟩
          refine ⟨_, rfl, _, rfl, ra, a, r, _, rfl, hR.mono s1, ha, fun t b H2 s2 ht hb => ?_⟩
          have hbl := hb.lit
          refine ⟨t, _, rfl, SqT.of ht, rfl, _, _, rfl, _, _, rfl, rfl, _, rfl, b, _, 5, _, rfl, rfl, SqT.of hbl, atI_nat (j := 5) rfl, _, rfl, _, _, rfl, rfl, _, rfl, _, rfl, _, _, rfl, rfl, _, rfl, _, _, rfl, rfl, (by show 4 ≤ sizeLine; decide), fun t ht => ?_⟩
          exact q t _ _ _ (same_new (s1.trans s2) ht) upd_same
/-- rules_of -/
def spRulesOf (K : PySem.W.Frag) : Sp := fun vs H Q _ => ∃ (sa : Addr) (c : Cfg) (e : Bool), vs = [.ref sa, .int (eV e)] ∧ SetAt K H sa c ∧
  ∀ (t : Addr), H t = none → Q (.ref t) (upd H t (.tup [.int (c.rule e).size, .str (hV (c.rule e).hold), .int (c.rule e).every]))
theorem c_rules_of (T : Txt K mg) : Con P w K mg base 1 (He.ga K "rules_of") ["setting", "speaker"] [] (spRulesOf K) := by
  refine con_of T.d_rules_of rfl rfl sc_rules_of (fun _ _ _ _ _ _ us hl => match us, hl with | [_, _], _ => rfl) (fun vs H Q E h => ?_) (fun cdv A outer s H vs Q E hr h => ?_)
  · obtain ⟨sa, c, e, rfl, _⟩ := h
    rfl
  · obtain ⟨sa, c, e, rfl, hS, q⟩ := h
    obtain ⟨dx, t, pq, h1, h2⟩ := hS.pol
    obtain ⟨ps1, a1, b1, dx1, c1⟩ := h2 e
    obtain ⟨ps2, a2, b2, dx2, c2⟩ := h2 (!e)
    refine ⟨_, pss_one (ps_ret (pe_tup (pa_cons (pe_fld (pv 0) rfl) (pa_cons (pe_fld (pe_ix ix_tup (pe_fld (pv 0) rfl) (pv 1) (fun _ _ => rfl)) rfl) (pa_cons (pe_fld (pe_ix ix_tup (pe_fld (pv 0) rfl) (pe_op op_sub pe_int (pv 1)) (fun _ _ => rfl)) rfl) pa_nil))))), ?_⟩
    rw [eV_not] at b2
    refine ⟨_, rfl, sa, _, dx, _, _, rfl, h1, T.c_Setting, T.n_Setting_size, lk_Setting_size, ?_⟩
    refine ⟨_, rfl, sa, _, dx, _, _, rfl, h1, T.c_Setting, T.n_Setting_policies, lk_Setting_policies, _, rfl, t, _, _, _, rfl, rfl, SqT.of a1, b1, pq e, _, dx1, _, _, rfl, c1, T.c_Policy, T.n_Policy_hold, lk_Policy_hold, ?_⟩
    refine ⟨_, rfl, sa, _, dx, _, _, rfl, h1, T.c_Setting, T.n_Setting_policies, lk_Setting_policies, _, rfl, _, _, rfl, rfl, t, _, _, _, rfl, rfl, SqT.of a2, b2, pq (!e), _, dx2, _, _, rfl, c2, T.c_Policy, T.n_Policy_every, lk_Policy_every, ?_⟩
    exact ⟨(by show 3 ≤ sizeLine; decide), fun t ht => q t ht⟩
def spFirstParts : Sp := fun vs H Q _ => ∃ k : Int, vs = [.int k] ∧ ∀ (t : Addr), H t = none → Q (.ref t) (upd H t (.tup [.int 0, .bl false, .bl false, .bl false, .int 0, .int k]))
theorem c_first_parts (T : Txt K mg) : Con P w K mg base 1 (He.ga K "first_parts") ["quick"] [] spFirstParts := by
  refine con_of T.d_first_parts rfl rfl sc_first_parts (fun _ _ _ _ _ _ us hl => match us, hl with | [_], _ => rfl) (fun vs H Q E h => ?_) (fun cdv A outer s H vs Q E hr h => ?_)
  · obtain ⟨k, rfl, _⟩ := h
    rfl
  · obtain ⟨k, rfl, q⟩ := h
    refine ⟨_, pss_one (ps_ret (pe_tup (pa_cons pe_int (pa_cons pe_bl (pa_cons pe_bl (pa_cons pe_bl (pa_cons pe_int (pa_cons (pv 0) pa_nil)))))))), ?_⟩
    exact ⟨_, rfl, (by show 6 ≤ sizeLine; decide), fun t ht => q t ht⟩
/-- the pair of first segments left -/
def QAt (H : Hp) (a : Addr) (p : Int × Int) : Prop := H a = some (.tup [.int p.1, .int p.2])
theorem QAt.mono {H H' : Hp} {a : Addr} {p : Int × Int} (h : QAt H a p) (s : Same H H') : QAt H' a p := s _ _ h
theorem QAt.at_ {H : Hp} {a : Addr} {p : Int × Int} (h : QAt H a p) (e : Bool) : ∃ xs, H a = some (.tup xs) ∧ atI xs (eV e) = some (.int (LW.qget p e)) := by
  refine ⟨_, h, ?_⟩
  cases e
  · exact atI_nat (j := 0) rfl
  · exact atI_nat (j := 1) rfl
def spWithQuick : Sp := fun vs H Q _ => ∃ (a : Addr) (p : Int × Int) (e : Bool) (k : Int), vs = [.ref a, .int (eV e), .int k] ∧ QAt H a p ∧ ∀ (t : Addr), H t = none → Q (.ref t) (upd H t (.tup [.int (LW.qset p e k).1, .int (LW.qset p e k).2]))
theorem c_with_quick (T : Txt K mg) : Con P w K mg base 1 (He.ga K "with_quick") ["quick", "endpoint", "many"] [] spWithQuick := by
  refine con_of T.d_with_quick rfl rfl sc_with_quick (fun _ _ _ _ _ _ us hl => match us, hl with | [_, _, _], _ => rfl) (fun vs H Q E h => ?_) (fun cdv A outer s H vs Q E hr h => ?_)
  · obtain ⟨a, p, e, k, rfl, _⟩ := h
    rfl
  · obtain ⟨a, p, e, k, rfl, hq, q⟩ := h
    have hq : H a = some (.tup [.int p.1, .int p.2]) := hq
    refine ⟨_, pss_one (ps_ret (pe_ifExp (pt_cmpR op_eq (pv 1) pe_int (nomark _)) (pe_tup (pa_cons (pv 2) (pa_cons (pe_ix ix_tup (pv 0) pe_int (fun _ _ => rfl)) pa_nil))) (pe_tup (pa_cons (pe_ix ix_tup (pv 0) pe_int (fun _ _ => rfl)) (pa_cons (pv 2) pa_nil))))), ?_⟩
    refine ⟨_, rfl, rfl, _, rfl, ?_⟩
    cases e with
    | false => exact iteD rfl ⟨_, rfl, _, rfl, a, _, 1, _, rfl, rfl, SqT.of hq, atI_nat (j := 1) rfl, (by show 2 ≤ sizeLine; decide), fun t ht => q t ht⟩
    | true => exact iteDn (fun z => by cases z) ⟨_, rfl, a, _, 0, _, rfl, rfl, SqT.of hq, atI_nat (j := 0) rfl, _, rfl, (by show 2 ≤ sizeLine; decide), fun t ht => q t ht⟩
def spFirstQuick (K : PySem.W.Frag) : Sp := fun vs H Q _ => ∃ (sa : Addr) (c : Cfg), vs = [.ref sa] ∧ SetAt K H sa c ∧ ∀ (t : Addr) (H' : Hp), Same H H' → QAt H' t (LW.quick0 c) → Q (.ref t) H'
theorem c_first_quick (T : Txt K mg) : Con P w K mg base 1 (He.ga K "first_quick") ["setting"] [] (spFirstQuick K) := by
  refine con_of T.d_first_quick rfl rfl sc_first_quick (fun _ _ _ _ _ _ us hl => match us, hl with | [_], _ => rfl) (fun vs H Q E h => ?_) (fun cdv A outer s H vs Q E hr h => ?_)
  · obtain ⟨sa, c, rfl, _⟩ := h
    rfl
  · obtain ⟨sa, c, rfl, ⟨dx, t, p0, p1, h1, h2, ⟨d0, h3⟩, ⟨d1, h4⟩⟩, q⟩ := h
    have nd := sc_first_quick.nd
    refine ⟨_, pss_one (ps_ret (ty call_tuple_of T.f_tuple (pa_cons (pe_lc (own := [("policy", 1)]) (g := gName 1) (tt := tYes) (te := tFld K (tVar 1) "quick") rfl nd
      (pi_tup (pe_fld (pv 0) rfl)) (blkOk_by (N := N_first_quick) (sc := defScope st_first_quick) (by decide +kernel)) (fun _ _ _ _ _ => gn 1 nd) (fun _ _ _ _ _ => pts_nil) (fun _ _ _ _ _ => pe_fld (pv 1) rfl)) pa_nil))), ?_⟩
    refine ⟨_, rfl, sa, _, dx, _, _, rfl, h1, T.c_Setting, T.n_Setting_policies, lk_Setting_policies, t, rfl, ⟨_, SqT.of h2⟩, fun D hD => ?_⟩
    refine lc_tup (K := K) (xs := [.ref p0, .ref p1]) (fun i H' => H' = upd H D (.lst (([c.p0.quick, c.p1.quick].take i).map V.int))) rfl (fun i H' _ e => by rw [e]; exact SqT.of (upd_new hD h2)) (fun i y H' hi e => ?_) (fun H' e => ?_)
    · subst e
      refine ⟨rfl, ?_⟩
      refine iteT (B := False) ?_
      match i, hi with
      | 0, hi =>
        obtain rfl := Option.some.inj hi
        exact ⟨_, rfl, p0, _, d0, _, _, rfl, upd_new hD h3, T.c_Policy, T.n_Policy_quick, lk_Policy_quick, _, upd_same, (by show 0 < sizeLine; decide), by rw [upd_upd]; rfl⟩
      | 1, hi =>
        obtain rfl := Option.some.inj hi
        exact ⟨_, rfl, p1, _, d1, _, _, rfl, upd_new hD h4, T.c_Policy, T.n_Policy_quick, lk_Policy_quick, _, upd_same, (by show 1 < sizeLine; decide), by rw [upd_upd]; rfl⟩
      | n + 2, hi => cases hi
    · subst e
      refine ⟨D, _, rfl, .inl ⟨SqL.of upd_same, fun l hl => ?_⟩⟩
      exact q l _ (same_new (same_new (Same.refl H) hD) hl) upd_same
end
end Lw

namespace Lw
open PySem PySem.Spec PyProof.Rows L2
open LW (Hold Mode Pol Cfg Write Side Scene Parts Way Rule Ways acN)
/-- the list of pairs (number, parts) -/
def WayAt (H : Hp) (a : Addr) (x : Int × Parts) : Prop := ∃ pa, H a = some (.tup [.int x.1, .ref pa]) ∧ PartsAt H pa x.2
theorem WayAt.mono {H H' : Hp} {a : Addr} {x : Int × Parts} (h : WayAt H a x) (s : Same H H') : WayAt H' a x := by
  obtain ⟨pa, h1, h2⟩ := h
  exact ⟨pa, s _ _ h1, h2.mono s⟩
def WaysAt (H : Hp) (l : Addr) (ls : List (Int × Parts)) : Prop := ∃ as : List Addr, H l = some (.lst (as.map V.ref)) ∧ All2 (WayAt H) as ls
def wl (r : Rule) (p : Parts) (i : Nat) : List (Int × Parts) := (List.range (i + 1)).map fun (j : Nat) => ((j : Int), acN r j p)
theorem wl_succ (r : Rule) (p : Parts) (i : Nat) : wl r p (i + 1) = wl r p i ++ [(((i + 1 : Nat) : Int), acN r (i + 1) p)] := by
  unfold wl
  rw [List.range_succ, List.map_append]
  rfl
theorem wl_last (r : Rule) (p : Parts) (i : Nat) : wl r p i = ((List.range i).map fun (j : Nat) => ((j : Int), acN r j p)) ++ [((i : Int), acN r i p)] := by
  unfold wl
  rw [List.range_succ, List.map_append]
  rfl
theorem wl_len (r : Rule) (p : Parts) (i : Nat) : (wl r p i).length = i + 1 := by
  unfold wl
  rw [List.length_map, List.length_range]
theorem acN_stay {r : Rule} {p : Parts} {i : Nat} (h : acN r (i + 1) p = acN r i p) : ∀ j, acN r (i + j) p = acN r i p
  | 0 => rfl
  | j + 1 => by
    show LW.ac r (acN r (i + j) p) = _
    rw [acN_stay h j]
    exact h
theorem wl_ways {r : Rule} {p : Parts} {i n : Nat} (hn : 0 < n) (hi : i ≤ 2) (h : i = 2 ∨ acN r (i + 1) p = acN r i p) : Ways r n p (wl r p i) := by
  refine ⟨fun x hx => ?_, fun k h0 h2 => ?_⟩
  · obtain ⟨j, hj, rfl⟩ := List.mem_map.mp hx
    have hj := List.mem_range.mp hj
    rw [if_pos hn]
    exact ⟨by show (0 : Int) ≤ (j : Int); omega, by show (j : Int) ≤ 2; omega, rfl⟩
  · rw [if_pos hn] at h2
    by_cases c : k.toNat ≤ i
    · exact ⟨_, List.mem_map.mpr ⟨k.toNat, List.mem_range.mpr (by omega), rfl⟩, rfl⟩
    · refine ⟨_, List.mem_map.mpr ⟨i, List.mem_range.mpr (by omega), rfl⟩, ?_⟩
      rcases h with z | z
      · omega
      · have := acN_stay z (k.toNat - i)
        rw [show i + (k.toNat - i) = k.toNat by omega] at this
        exact this.symm
/-- parts as data -/
def pD (p : Parts) : PyData := .tuple [.int p.rest, .bool p.kept, .bool p.blocked, .bool p.stuck, .int p.pending, .int p.quick]
theorem pD_dp {K : PySem.W.Frag} {H : Hp} {a : Addr} {p : Parts} (h : PartsAt H a p) : Dp K H (.ref a) (pD p) :=
  .tup (SqT.of h.lit) (.cons (.int _) (.cons (.bl _) (.cons (.bl _) (.cons (.bl _) (.cons (.int _) (.cons (.int _) .nil))))))
theorem pD_eqv (p q : Parts) : PyData.eqv (pD p) (pD q) = decide (p = q) := by
  rcases p with ⟨a, b, c, d, e, f⟩
  rcases q with ⟨a', b', c', d', e', f'⟩
  show ((a == a') && ((b == b') && ((c == c') && ((d == d') && ((e == e') && ((f == f') && true)))))) = _
  rw [Bool.eq_iff_iff]
  simp
section
variable {P : Program} {w : World} {K : PySem.W.Frag} {mg : Str → Option Value} {base : Heap}
def spClear : Sp := fun vs H Q _ => ∃ (ra pa : Addr) (r : Rule) (p : Parts), vs = [.ref ra, .ref pa] ∧ RuleAt H ra r ∧ PartsAt H pa p ∧
  ∀ (l : Addr) (H' : Hp) (ls : List (Int × Parts)), Same H H' → WaysAt H' l ls → ls.length ≤ 3 → (∀ n, 0 < n → Ways r n p ls) → Q (.ref l) H'
theorem c_clearings_of (T : Txt K mg) : Con P w K mg base 3 (He.ga K "clearings_of") ["rules", "parts"] [] spClear := by
  refine con_of T.d_clearings_of rfl rfl sc_clearings_of (fun _ _ _ _ _ _ us hl => match us, hl with | [_, _], _ => rfl) (fun vs H Q E h => ?_) (fun cdv A outer s H vs Q E hr h => ?_)
  · obtain ⟨ra, pa, r, p, rfl, _⟩ := h
    rfl
  · obtain ⟨ra, pa, r, p, rfl, hR, hP, q⟩ := h
    have nd := sc_clearings_of.nd
    refine ⟨_, pss_cons (ss 2 nd (pe_lst (pa_cons (pe_tup (pa_cons pe_int (pa_cons (pv 1) pa_nil))) pa_nil)))
      (pss_cons (ps_for PassesOwn.never rfl (pi_range2 rfl T.f_range (pa_cons pe_int (pa_cons pe_int pa_nil))) (gn 3 nd)
        (pss_cons (ss 4 nd (pe_ix ix_tup (call_c (c_after_clearing T) hr T.g_after_clearing (pa_cons (pv 0) (pa_cons (pe_ix ix_tup (pe_ix ix_list (pv 2) (pe_un un_neg pe_int) (fun _ _ => rfl)) pe_int (fun _ _ => rfl)) pa_nil))) pe_int (fun _ _ => rfl)))
        (pss_cons (ps_if (pt_cmpR (op_eqD hr.units) (pv 4) (pe_ix ix_tup (pe_ix ix_list (pv 2) (pe_un un_neg pe_int) (fun _ _ => rfl)) pe_int (fun _ _ => rfl)) (nomark _)) (pss_one ps_break) pss_nil)
        (pss_one (ps_expr (pe_bm PySem.F.plainAttrs_list PySem.F.slot_list_append PySem.F.type_list_append mt_append (pv 2) (pa_cons (pe_tup (pa_cons (pv 3) (pa_cons (pv 4) pa_nil))) pa_nil)))))))
      (pss_one (ps_ret (pv 2)))), ?_⟩
    refine ⟨_, rfl, (by show 2 ≤ sizeLine; decide), fun p0 h0 => ⟨(by show 1 ≤ sizeLine; decide), fun l hl0 => ?_⟩⟩
    have hl : H l = none := (none_upd hl0).1
    have s0 : Same H (upd (upd H p0 (.tup [.int 0, .ref pa])) l (.lst [.ref p0])) := same_new (same_new (Same.refl H) h0) hl0
    refine ⟨_, _, rfl, by decide, for_range (fun i σ H' => ∃ u v, σ = [some (.ref ra), some (.ref pa), some (.ref l), u, v] ∧ Same H H' ∧ WaysAt H' l (wl r p i))
      ⟨none, none, rfl, s0, [p0], upd_same, All2.one ⟨pa, upd_new hl0 upd_same, hP.mono s0⟩⟩ ?_ ?_⟩
    · rintro i σ H1 hi ⟨u, v, rfl, s1, as, hl1, ha⟩
      have hi : i < 2 := hi
      have la : as.length = i + 1 := by
        rw [ha.len]
        unfold wl
        rw [List.length_map, List.length_range]
      rcases nil_or_snoc as with rfl | ⟨as0, a1, rfl⟩
      · simp at la
      rw [wl_last] at ha
      obtain ⟨ha0, a1p, ha1, hap⟩ := ha.init
      have ha1 : H1 a1 = some (.tup [.int (i : Nat), .ref a1p]) := ha1
      have hap : PartsAt H1 a1p (acN r i p) := hap
      have hl1' : H1 l = some (.lst (as0.map V.ref ++ [V.ref a1])) := by
        rw [hl1, List.map_append]
        rfl
      refine ⟨_, rfl, _, rfl, _, rfl, l, _, _, _, rfl, rfl, SqL.of hl1', atI_last _ _, a1, _, 1, _, rfl, rfl, SqT.of ha1, atI_nat (j := 1) rfl, ra, a1p, r, _, rfl, hR.mono s1, hap, fun t b H2 s2 ht hb => ?_⟩
      refine ⟨t, _, 0, _, rfl, rfl, SqT.of ht, atI_nat (j := 0) rfl, ?_⟩
      have hb : PartsAt H2 b (acN r (i + 1) p) := hb
      refine ⟨_, rfl, _, rfl, _, rfl, l, _, _, _, rfl, rfl, SqL.of (s2 _ _ hl1'), atI_last _ _, a1, _, 1, _, rfl, rfl, SqT.of (s2 _ _ ha1), atI_nat (j := 1) rfl, pD (acN r (i + 1) p), pD (acN r i p), pD_dp hb, pD_dp (hap.mono s2), rfl, rfl, _, rfl, ?_⟩
      rw [pD_eqv]
      by_cases hs : acN r (i + 1) p = acN r i p
      · refine iteD hs ?_
        refine ⟨_, rfl, q l H2 (wl r p i) (s1.trans s2) ⟨as0 ++ [a1], s2 _ _ hl1, ?_⟩ (by rw [wl_len]; omega) fun n hn => wl_ways hn (by omega) (Or.inr hs)⟩
        rw [wl_last]
        exact ha.mono fun b x q => q.mono s2
      · refine iteDn hs ?_
        refine ⟨_, rfl, .inl ⟨rfl, _, SqL.of (s2 _ _ hl1')⟩, _, rfl, _, rfl, (by show 2 ≤ sizeLine; decide), fun p2 h2 => ?_⟩
        refine ⟨l, _, _, rfl, rfl, upd_new h2 (s2 _ _ hl1'), by rw [List.length_append, List.length_map]; simp at la; exact small1000 (by simp; omega), ?_⟩
        have s3 : Same H (upd H2 p2 (.tup [.int (1 + (i : Int)), .ref b])) := same_new (s1.trans s2) h2
        have nl : ∀ c o, H2 c = some o → (∀ ys, o ≠ .lst ys) → c ≠ l := fun c o q h z => by
          rw [z, s2 _ _ hl1'] at q
          exact h _ (Option.some.inj q).symm
        have keep : ∀ c xs, H2 c = some (.tup xs) → (upd (upd H2 p2 (.tup [.int (1 + (i : Int)), .ref b])) l (.lst ((as0.map V.ref ++ [V.ref a1]) ++ [.ref p2]))) c = some (.tup xs) := fun c xs q => by
          rw [upd_ne (nl c _ q (fun _ z => nomatch z)), upd_ne (ne_of_none q h2)]
          exact q
        have np2 : p2 ≠ l := fun z => by rw [z, s2 _ _ hl1'] at h2; cases h2
        refine ⟨_, _, rfl, same_put s3 hl, (as0 ++ [a1]) ++ [p2], by rw [upd_same, List.map_append, List.map_append]; rfl, ?_⟩
        rw [wl_succ]
        refine All2.snoc ?_ ?_
        · rw [wl_last]
          refine ha.mono fun c x ⟨pa', q1, q2⟩ => ⟨pa', keep _ _ (s2 _ _ q1), keep _ _ (s2 _ _ q2)⟩
        · refine ⟨b, ?_, keep _ _ hb⟩
          rw [upd_ne np2, upd_same]
          have : (1 : Int) + (i : Int) = ((i + 1 : Nat) : Int) := by omega
          rw [this]
    · rintro σ H1 ⟨u, v, rfl, s1, wA⟩
      have wA : WaysAt H1 l (wl r p 2) := wA
      exact ⟨_, rfl, q l H1 _ s1 wA (by rw [wl_len]; decide) fun n hn => wl_ways hn (by omega) (Or.inl rfl)⟩
end
end Lw

namespace Lw
open PySem PySem.Spec PyProof.Rows L2
open LW (Hold Mode Pol Cfg Write Side Scene Parts Way Rule Ways acN Reach EndsOf aw)
/-- the tuples and the lists are kept -/
structure KD (H H' : Hp) : Prop where
  t : ∀ a xs, H a = some (.tup xs) → H' a = some (.tup xs)
  l : ∀ a xs, H a = some (.lst xs) → H' a = some (.lst xs)
theorem KD.refl (H : Hp) : KD H H := ⟨fun _ _ h => h, fun _ _ h => h⟩
theorem KD.of {H H' : Hp} (s : Same H H') : KD H H' := ⟨fun a xs h => s _ _ h, fun a xs h => s _ _ h⟩
theorem KD.trans {H H1 H2 : Hp} (a : KD H H1) (b : KD H1 H2) : KD H H2 := ⟨fun c xs h => b.t _ _ (a.t _ _ h), fun c xs h => b.l _ _ (a.l _ _ h)⟩
theorem KD.put {H : Hp} {d : Addr} {o u : HO} (h : H d = some u) (n1 : ∀ xs, u ≠ .tup xs) (n2 : ∀ xs, u ≠ .lst xs) : KD H (upd H d o) := by
  refine ⟨fun a xs q => ?_, fun a xs q => ?_⟩
  · rw [upd_ne (fun z => by rw [z, h] at q; exact n1 _ (Option.some.inj q))]
    exact q
  · rw [upd_ne (fun z => by rw [z, h] at q; exact n2 _ (Option.some.inj q))]
    exact q
theorem KD.new {H : Hp} {d : Addr} {o : HO} (h : H d = none) : KD H (upd H d o) := KD.of (same_new (Same.refl H) h)
theorem KD.ext {H : Hp} {d : Addr} {o : HO} {φ : Heap → Prop} (h : H d = some (.ext φ)) : KD H (upd H d o) := KD.put h (fun _ z => nomatch z) (fun _ z => nomatch z)
theorem KD.frz {H : Hp} {d : Addr} {o u : HO} {ob : Obj} (h : H d = some (.frz ob u)) : KD H (upd H d o) := KD.put h (fun _ z => nomatch z) (fun _ z => nomatch z)
mutual
theorem NK.kd {H H' : Hp} (s : KD H H') : ∀ {v : V} {k : NestedKey}, NK H v k → NK H' v k
  | _, _, .non => .non
  | _, _, .bl b => .bl b
  | _, _, .int i => .int i
  | _, _, .str x => .str x
  | _, _, .tup h q => .tup (s.t _ _ h) (NKs.kd s q)
theorem NKs.kd {H H' : Hp} (s : KD H H') : ∀ {vs : List V} {ks : List NestedKey}, NKs H vs ks → NKs H' vs ks
  | _, _, .nil => .nil
  | _, _, .cons h q => .cons (NK.kd s h) (NKs.kd s q)
end
theorem KeysAt.kd {κ : Type} {H H' : Hp} {E : Enc κ} {rows : List (κ × Addr × V)} (h : KeysAt H E rows) (s : KD H H') : KeysAt H' E rows := fun x hx => (h x hx).kd s
theorem PartsAt.kd {H H' : Hp} {a : Addr} {p : Parts} (h : PartsAt H a p) (s : KD H H') : PartsAt H' a p := s.t _ _ h
theorem WayAt.kd {H H' : Hp} {a : Addr} {x : Int × Parts} (h : WayAt H a x) (s : KD H H') : WayAt H' a x := by
  obtain ⟨pa, h1, h2⟩ := h
  exact ⟨pa, s.t _ _ h1, h2.kd s⟩
/-- a list of ints -/
def LsV (H : Hp) (v : V) (ks : List Int) : Prop := ∃ a, v = .ref a ∧ H a = some (.lst (ks.map V.int))
theorem LsV.kd {H H' : Hp} {v : V} {ks : List Int} (h : LsV H v ks) (s : KD H H') : LsV H' v ks := by
  obtain ⟨a, h1, h2⟩ := h
  exact ⟨a, h1, s.l _ _ h2⟩
/-! ### the keys -/
def b01 (b : Bool) : Int := if b = true then 1 else 0
theorem b01_inj {a b : Bool} (h : b01 a = b01 b) : a = b := by cases a <;> cases b <;> first | rfl | cases h
def EP : Enc Parts where
  enc p := .tup [.num p.rest, .num (b01 p.kept), .num (b01 p.blocked), .num (b01 p.stuck), .num p.pending, .num p.quick]
  inj := fun x y h => by
    rcases x with ⟨a, b, c, d, e, f⟩
    rcases y with ⟨a', b', c', d', e', f'⟩
    injection h with h
    injection h with h1 h
    injection h with h2 h
    injection h with h3 h
    injection h with h4 h
    injection h with h5 h
    injection h with h6 h
    injection h1 with h1
    injection h2 with h2
    injection h3 with h3
    injection h4 with h4
    injection h5 with h5
    injection h6 with h6
    simp only at h1 h2 h3 h4 h5 h6
    rw [h1, b01_inj h2, b01_inj h3, b01_inj h4, h5, h6]
  deep := fun a => Nat.le_of_ble_eq_true rfl
def EQ : Enc (Int × Int) where
  enc p := .tup [.num p.1, .num p.2]
  inj := fun a b h => by
    injection h with h
    injection h with h1 h
    injection h with h2 h
    injection h1 with h1
    injection h2 with h2
    exact Prod.ext h1 h2
  deep := fun a => Nat.le_of_ble_eq_true rfl
theorem PartsAt.nk {H : Hp} {a : Addr} {p : Parts} (h : PartsAt H a p) : NK H (.ref a) (EP.enc p) := .tup h.lit (.cons (.int _) (.cons (.bl _) (.cons (.bl _) (.cons (.bl _) (.cons (.int _) (.cons (.int _) .nil))))))
theorem nkQ {H : Hp} {a : Addr} {p : Int × Int} (h : H a = some (.tup [.int p.1, .int p.2])) : NK H (.ref a) (EQ.enc p) := .tup h (.cons (.int _) (.cons (.int _) .nil))
/-- the keys' own tuples, told by a relation -/
def KeysR {κ : Type} (R : Addr → κ → Prop) (rows : List (κ × Addr × V)) : Prop := ∀ x ∈ rows, R x.2.1 x.1
section
variable {κ : Type} {R R' : Addr → κ → Prop} {rows : List (κ × Addr × V)} {E : Enc κ} {H : Hp}
theorem KeysR.mono (h : KeysR R rows) (f : ∀ a k, R a k → R' a k) : KeysR R' rows := fun x hx => f _ _ (h x hx)
theorem KeysR.nk (h : KeysR R rows) (f : ∀ a k, R a k → NK H (.ref a) (E.enc k)) : KeysAt H E rows := fun x hx => f _ _ (h x hx)
theorem KeysR.put [DecidableEq κ] (h : KeysR R rows) {k : κ} {b : Addr} (v : V) (q : R b k) : KeysR R (putN rows k b v) := by
  intro x hx
  unfold putN at hx
  split at hx
  · obtain ⟨y, hy, ey⟩ := List.mem_map.mp hx
    by_cases e : y.1 = k
    · rw [if_pos e] at ey
      subst ey
      exact h y hy
    · rw [if_neg e] at ey
      subst ey
      exact h y hy
  · rcases List.mem_append.mp hx with z | z
    · exact h x z
    · have : x = (k, b, v) := List.mem_singleton.mp z
      subst this
      exact q
end
/-- the table of a turn's states, laid at d -/
structure TabP (P : Program) (w : World) (H : Hp) (d : Addr) (rows : List (Parts × Addr × V)) (kvs : List (Parts × List Int)) : Prop where
  rel : Rows (LsV H) rows kvs
  keys : KeysR (PartsAt H) rows
theorem TabP.kd {P : Program} {w : World} {H H' : Hp} {d : Addr} {rows : List (Parts × Addr × V)} {kvs : List (Parts × List Int)} (h : TabP P w H d rows kvs) (s : KD H H') : TabP P w H' d rows kvs :=
  ⟨h.rel.mono fun _ _ q => q.kd s, h.keys.mono fun _ _ q => PartsAt.kd q s⟩
theorem TabP.at_ {P : Program} {w : World} {H : Hp} {d : Addr} {rows : List (Parts × Addr × V)} {kvs : List (Parts × List Int)} (h : TabP P w H d rows kvs) : KeysAt H EP rows := h.keys.nk fun _ _ q => q.nk
section
variable {P : Program} {w : World} {K : PySem.W.Frag} {mg : Str → Option Value} {base : Heap}
/-- what the inner table holds: sound, and complete as far as it goes -/
structure StepS (r : Rule) (wr : Write) (i : Nat) (kvs bk : List (Parts × List Int)) : Prop where
  s : ∀ y ∈ bk, ∃ x ∈ kvs, ∃ k : Int, 0 ≤ k ∧ k ≤ (if 0 < i then 2 else 0) ∧ y = (aw r (acN r k.toNat x.1) wr.len wr.mode, x.2 ++ [k])
def StepC (r : Rule) (wr : Write) (i : Nat) (bk : List (Parts × List Int)) (x : Parts) : Prop := ∀ k : Int, 0 ≤ k → k ≤ (if 0 < i then 2 else 0) → ∃ y ∈ bk, y.1 = aw r (acN r k.toNat x) wr.len wr.mode
theorem has_put {κ β : Type} [DecidableEq κ] {kvs : List (κ × β)} {k : κ} {v : β} {z : κ} (h : ∃ y ∈ kvs, y.1 = z) : ∃ y ∈ mput kvs k v, y.1 = z := by
  obtain ⟨y, hy, ey⟩ := h
  by_cases e : z = k
  · exact ⟨_, mem_mput_self kvs k v, e.symm⟩
  · exact ⟨y, mem_mput_ne hy (fun q => e (ey.symm.trans q)), ey⟩
def spTurnEnds (P : Program) (w : World) : Sp := fun vs H Q _ => ∃ (ra wa : Addr) (r : Rule) (tw : List Write) (q : Int), vs = [.ref ra, .ref wa, .int q] ∧ RuleAt H ra r ∧ RuleOk r ∧ ConvAt H wa tw ∧ tw.length ≤ 5 ∧
  ∀ (d : Addr) (H' : Hp) (rows : List ((Int × Int) × Addr × V)) (ends : List ((Int × Int) × List Int)), Same H H' → H d = none → H' d = some (dN P w EQ d rows) → Rows (LsV H') rows ends → KeysR (fun a k => H' a = some (.tup [.int k.1, .int k.2])) rows →
    ends.length ≤ 3 ^ tw.length → EndsOf r tw q ends → Q (.ref d) H'
theorem pow3 {n : Nat} (h : n ≤ 5) : 3 ^ n ≤ 243 := Nat.pow_le_pow_right (by decide) h
theorem c_turn_ends (T : Txt K mg) : Con P w K mg base 4 (He.ga K "turn_ends") ["rules", "writes", "quick"] [] (spTurnEnds P w) := by
  refine con_of T.d_turn_ends rfl rfl sc_turn_ends (fun _ _ _ _ _ _ us hl => match us, hl with | [_, _, _], _ => rfl) (fun vs H Q E h => ?_) (fun cdv A outer s H vs Q E hr h => ?_)
  · obtain ⟨ra, wa, r, tw, q, rfl, _⟩ := h
    rfl
  · obtain ⟨ra, wa, r, tw, q0, rfl, hR, ok, hW, ht5, q⟩ := h
    have nd := sc_turn_ends.nd
    have hu := hr.units
    obtain ⟨ts, hts, hTs⟩ := hW
    refine ⟨_, pss_cons (ss 3 nd (oneN EP P w hu (call_c (c_first_parts T) (hr.mono (by decide)) T.g_first_parts (pa_cons (pv 2) pa_nil)) (pe_lst pa_nil)))
      (pss_cons (ps_for PassesOwn.never rfl (pi_enum rfl T.f_enumerate (pa_cons (pv 1) pa_nil)) (pg_tup rfl (pgs_cons (gn 4 nd) (pgs_cons (gn 5 nd) pgs_nil)))
        (pss_cons (ss 6 nd (newN EP P w))
        (pss_cons (ps_lock (ps_for PassesOwn.never rfl (keysN EP P w (pv 3)) (gn 7 nd)
          (C8.pss_cut (ss 8 nd (pe_ifExp (pt_cmpR op_gt (pv 4) pe_int (nomark _)) (call_c (c_clearings_of T) hr T.g_clearings_of (pa_cons (pv 0) (pa_cons (pv 7) pa_nil))) (pe_lst (pa_cons (pe_tup (pa_cons pe_int (pa_cons (pv 7) pa_nil))) pa_nil))))
          (pss_one (ps_for PassesOwn.never rfl (pi_list (pv 8)) (pg_tup rfl (pgs_cons (gn 9 nd) (pgs_cons (gn 10 nd) pgs_nil)))
            (pss_cons (ss 11 nd (pe_ix ix_tup (call_c (c_after_write T) (hr.mono (by decide)) T.g_after_write (pa_cons (pv 0) (pa_cons (pv 10) (pa_cons (pe_ix ix_tup (pv 5) pe_int (fun _ _ => rfl)) (pa_cons (pe_ix ix_tup (pv 5) pe_int (fun _ _ => rfl)) pa_nil))))) pe_int (fun _ _ => rfl)))
            (pss_one (ps_if (pt_cmpR (notInN EP P w hu) (pv 11) (pv 6) rfl) (pss_one (nput EP P w hu (pv 6) (pv 11) (pe_op op_cat (getN EP P w hu (pv 3) (pv 7) (fun _ _ => rfl)) (pe_lst (pa_cons (pv 9) pa_nil))))) pss_nil))))))))
        (pss_one (ss 3 nd (pv 6))))))
      (pss_cons (ss 12 nd (newN EQ P w))
      (pss_cons (ps_lock (ps_for PassesOwn.never rfl (keysN EP P w (pv 3)) (gn 7 nd)
        (pss_cons (ss 13 nd (pe_slice sl_tupA (call_c (c_after_turn T) hr T.g_after_turn (pa_cons (pv 0) (pa_cons (pv 7) pa_nil))) po_none (po_some pe_int)))
        (pss_one (ps_if (pt_cmpR (notInN EQ P w hu) (pv 13) (pv 12) rfl) (pss_one (nput EQ P w hu (pv 12) (pv 13) (getN EP P w hu (pv 3) (pv 7) (fun _ _ => rfl)))) pss_nil)))))
      (pss_one (ps_ret (pv 12)))))), ?_⟩
    intro d hd
    have s0 : Same H (upd H d (dN P w EP d [])) := same_new (Same.refl H) hd
    refine ⟨_, rfl, q0, rfl, fun t0 ht0 => ?_⟩
    have s1 : Same H (upd (upd H d (dN P w EP d [])) t0 (.tup [.int 0, .bl false, .bl false, .bl false, .int 0, .int q0])) := same_new s0 ht0
    have hd1 : (upd (upd H d (dN P w EP d [])) t0 (.tup [.int 0, .bl false, .bl false, .bl false, .int 0, .int q0])) d = some (dN P w EP d []) := upd_new ht0 upd_same
    have hp1 : PartsAt (upd (upd H d (dN P w EP d [])) t0 (.tup [.int 0, .bl false, .bl false, .bl false, .int 0, .int q0])) t0 (LW.first q0) := upd_same
    generalize upd (upd H d (dN P w EP d [])) t0 (.tup [.int 0, .bl false, .bl false, .bl false, .int 0, .int q0]) = H1 at s1 hd1 hp1
    refine ⟨Nat.zero_le _, fun l0 hl0 => ?_⟩
    have s2 := same_new s1 hl0 (o := .lst [])
    have hd2 : (upd H1 l0 (.lst [])) d = some (dN P w EP d []) := upd_new hl0 hd1
    have k2 : KD (upd H1 l0 (.lst [])) (upd (upd H1 l0 (.lst [])) d (dN P w EP d [(LW.first q0, t0, .ref l0)])) := KD.ext hd2
    refine ⟨t0, LW.first q0, rfl, hd2, PartsAt.nk (PartsAt.kd hp1 (KD.new hl0)), ?_⟩
    have tab0 : TabP P w (upd (upd H1 l0 (.lst [])) d (dN P w EP d [(LW.first q0, t0, .ref l0)])) d [(LW.first q0, t0, .ref l0)] [(LW.first q0, [])] :=
      ⟨.cons rfl ⟨l0, rfl, k2.l _ _ upd_same⟩ .nil, fun x hx => by
        rw [List.mem_singleton.mp hx]
        exact PartsAt.kd hp1 ((KD.new hl0).trans k2)⟩
    have s3 : Same H (upd (upd H1 l0 (.lst [])) d (dN P w EP d [(LW.first q0, t0, .ref l0)])) := same_put s2 hd
    have hd3 : (upd (upd H1 l0 (.lst [])) d (dN P w EP d [(LW.first q0, t0, .ref l0)])) d = some (dN P w EP d [(LW.first q0, t0, .ref l0)]) := upd_same
    generalize upd (upd H1 l0 (.lst [])) d (dN P w EP d [(LW.first q0, t0, .ref l0)]) = H3 at tab0 s3 hd3
    refine ⟨_, rfl, wa, _, rfl, s3.seq (SqL.of hts), for_it walk_enum (fun i σ H' => ∃ (d : Addr) (rows : List (Parts × Addr × V)) (kvs : List (Parts × List Int)) (u4 u5 u6 u7 u8 u9 u10 u11 : Option V),
      σ = [some (.ref ra), some (.ref wa), some (.int q0), some (.ref d), u4, u5, u6, u7, u8, u9, u10, u11, none, none] ∧ Same H H' ∧ H d = none ∧ H' d = some (dN P w EP d rows) ∧ TabP P w H' d rows kvs ∧ Reach r tw q0 i kvs ∧ kvs.length ≤ 3 ^ i)
      ⟨d, _, _, none, none, none, none, none, none, none, none, rfl, s3, hd, hd3, tab0, LW.reach0, (by show 1 ≤ 1; decide)⟩ (fun i σ H' _ ⟨_, _, _, _, _, _, _, _, _, _, _, _, z, _⟩ => z.seq (SqL.of hts)) ?_ ?_⟩
    · clear tab0 hd3 s3 k2 hd2 s2 hl0 hp1 hd1 s1 ht0 s0
      rintro i x σ H5 H6 hi ⟨d, rows, kvs, u4, u5, u6, u7, u8, u9, u10, u11, rfl, s5, hd, hd5, tab, reach, hlen⟩ ⟨Tp, y, z, rfl, nT, rfl, ey, ez⟩
      have ey : V.int (i : Nat) = y := Option.some.inj ey
      subst ey
      obtain ⟨wt, et, rfl⟩ := ref_at ez
      obtain ⟨wr, ew, hw⟩ := hTs.get' et
      have hw : H wt = some (.tup [.int (eV wr.ep), .int wr.len, .str (mV wr.mode)]) := hw
      have hi5 : i < 5 := by
        have := (List.getElem?_eq_some_iff.mp ew).1
        omega
      refine ⟨Tp, _, rfl, SqT.of upd_same, rfl, _, _, rfl, _, _, rfl, rfl, ?_⟩
      have s6 : Same H (upd H5 Tp (.tup [.int (i : Nat), .ref wt])) := same_new s5 nT
      have hd6 : (upd H5 Tp (.tup [.int (i : Nat), .ref wt])) d = some (dN P w EP d rows) := upd_new nT hd5
      have tab6 : TabP P w (upd H5 Tp (.tup [.int (i : Nat), .ref wt])) d rows kvs := tab.kd (KD.new nT)
      generalize upd H5 Tp (.tup [.int (i : Nat), .ref wt]) = H7 at s6 hd6 tab6
      intro e he
      have heH : H e = none := s6.free he
      have ned : e ≠ d := fun z => by rw [z, hd6] at he; cases he
      have s7 := same_new s6 he (o := dN P w EP e [])
      have hd7 : (upd H7 e (dN P w EP e [])) d = some (dN P w EP d rows) := upd_new he hd6
      have he7 : (upd H7 e (dN P w EP e [])) e = some (dN P w EP e []) := upd_same
      have tab7 : TabP P w (upd H7 e (dN P w EP e [])) d rows kvs := tab6.kd (KD.new he)
      generalize upd H7 e (dN P w EP e []) = H8 at s7 hd7 he7 tab7
      refine ⟨d, _, hd7, True.intro, fun od => ?_⟩
      have s8 : Same H (upd H8 d (.frz od (dN P w EP d rows))) := same_put s7 hd
      have hd8 : (upd H8 d (.frz od (dN P w EP d rows))) d = some (.frz od (dN P w EP d rows)) := upd_same
      have he8 : (upd H8 d (.frz od (dN P w EP d rows))) e = some (dN P w EP e []) := by rw [upd_ne ned]; exact he7
      have tab8 : TabP P w (upd H8 d (.frz od (dN P w EP d rows))) d rows kvs := tab7.kd (KD.ext hd7)
      generalize upd H8 d (.frz od (dN P w EP d rows)) = HL at s8 hd8 he8 tab8
      refine ⟨_, rfl, d, od, rows, rfl, hd8, for_it walk_keysN (fun a σ H' => ∃ (brows : List (Parts × Addr × V)) (bk : List (Parts × List Int)) (u7 u8 u9 u10 u11 : Option V),
        σ = [some (.ref ra), some (.ref wa), some (.int q0), some (.ref d), some (.int (i : Nat)), some (.ref wt), some (.ref e), u7, u8, u9, u10, u11, none, none] ∧ Same H H' ∧ KD HL H' ∧ H' d = some (.frz od (dN P w EP d rows)) ∧ H' e = some (dN P w EP e brows) ∧
        TabP P w H' e brows bk ∧ StepS r wr i kvs bk ∧ (∀ x ∈ kvs.take a, StepC r wr i bk x.1) ∧ bk.length ≤ 3 * a)
        ⟨[], [], u7, u8, u9, u10, u11, rfl, s8, KD.refl _, hd8, he8, ⟨.nil, fun x hx => nomatch hx⟩, ⟨fun y hy => nomatch hy⟩, fun x hx => by simp at hx, Nat.zero_le _⟩ (fun a σ H' _ ⟨_, _, _, _, _, _, _, _, _, _, z, _⟩ => z) ?_ ?_⟩
      · rintro a x σ H9 H10 ha ⟨brows, bk, v7, v8, v9, v10, v11, rfl, s9, k9, hd9, he9, btab, bS, bC, blen⟩ ⟨rfl, row, hrow, rfl⟩
        have tab9 := tab8.kd k9
        obtain ⟨m, hm, em, vm⟩ := tab9.rel.at_ hrow
        have hpa : PartsAt H10 row.2.1 m.1 := by
          rw [← em]
          exact tab9.keys row (List.mem_of_getElem? hrow)
        have mk : m ∈ kvs := List.mem_of_getElem? hm
        have halt : a < 3 ^ i := by
          have := (List.getElem?_eq_some_iff.mp hm).1
          omega
        have h81 : 3 ^ i ≤ 81 := Nat.pow_le_pow_right (by decide) (show i ≤ 4 by omega)
        refine ⟨fun σ H' => ∃ (la : Addr) (ls : List (Int × Parts)), σ = [some (.ref ra), some (.ref wa), some (.int q0), some (.ref d), some (.int (i : Nat)), some (.ref wt), some (.ref e), some (.ref row.2.1), some (.ref la), v9, v10, v11, none, none] ∧ Same H10 H' ∧ WaysAt H' la ls ∧ Ways r i m.1 ls ∧ ls.length ≤ 3, ?_, ?_⟩
        · refine ⟨_, rfl, _, _, rfl, rfl, _, rfl, ?_⟩
          by_cases hi0 : (0 : Int) < (i : Int)
          · refine iteD hi0 ⟨_, rfl, _, rfl, ra, row.2.1, r, m.1, rfl, hR.mono s9, hpa, fun l H' ls sl wl ll ww => ?_⟩
            exact ⟨l, ls, rfl, sl, wl, ww i (by omega), ll⟩
          · refine iteDn hi0 ⟨_, rfl, (by show 2 ≤ sizeLine; decide), fun p1 h1 => ⟨(by show 1 ≤ sizeLine; decide), fun l hl => ?_⟩⟩
            have hi' : i = 0 := by omega
            subst hi'
            refine ⟨l, [(0, m.1)], rfl, same_new (same_new (Same.refl _) h1) hl, ⟨[p1], upd_same, All2.one ⟨row.2.1, upd_new hl upd_same, hpa.mono (same_new (same_new (Same.refl _) h1) hl)⟩⟩, ⟨fun x hx => ?_, fun k k0 k1 => ?_⟩, (by show 1 ≤ 3; decide)⟩
            · rw [List.mem_singleton.mp hx]
              exact ⟨by show (0 : Int) ≤ 0; decide, by show (0 : Int) ≤ 0; decide, rfl⟩
            · have k1 : k ≤ 0 := k1
              have : k = 0 := by omega
              subst this
              exact ⟨_, List.mem_singleton.mpr rfl, rfl⟩
        · rintro _ H11 ⟨la, ls, rfl, s11, ⟨as, hla, hAs⟩, ways, ll⟩
          have hd11 := s11 _ _ hd9
          have he11 := s11 _ _ he9
          refine ⟨_, rfl, la, rfl, ⟨_, SqL.of hla⟩, for_it walk_list (fun b σ H' => ∃ (brows : List (Parts × Addr × V)) (bk : List (Parts × List Int)) (u9 u10 u11 : Option V),
            σ = [some (.ref ra), some (.ref wa), some (.int q0), some (.ref d), some (.int (i : Nat)), some (.ref wt), some (.ref e), some (.ref row.2.1), some (.ref la), u9, u10, u11, none, none] ∧ Same H H' ∧ KD H11 H' ∧ H' d = some (.frz od (dN P w EP d rows)) ∧ H' e = some (dN P w EP e brows) ∧
            TabP P w H' e brows bk ∧ StepS r wr i kvs bk ∧ (∀ x ∈ kvs.take a, StepC r wr i bk x.1) ∧ (∀ v ∈ ls.take b, ∃ y ∈ bk, y.1 = aw r v.2 wr.len wr.mode) ∧ bk.length ≤ 3 * a + b)
            ⟨brows, bk, v9, v10, v11, rfl, s9.trans s11, KD.refl _, hd11, he11, btab.kd (KD.of s11), bS, bC, fun v hv => by simp at hv, blen⟩ (fun b σ H' _ ⟨_, _, _, _, _, _, _, z, _⟩ => SqL.of (z.l _ _ hla)) ?_ ?_⟩
          · rintro b x σ H12 H13 hb ⟨brows, bk, w9, w10, w11, rfl, s12, k12, hd12, he12, btab, bS, bC, bV, blen⟩ ⟨rfl, hx⟩
            have k0 : KD HL H13 := k9.trans ((KD.of s11).trans k12)
            obtain ⟨ta, hta, rfl⟩ := ref_at hx
            obtain ⟨⟨n, p⟩, hv, hv2⟩ := hAs.get' hta
            obtain ⟨pa, hta2, hpa2⟩ := hv2.kd k12
            have hta2 : H13 ta = some (.tup [.int n, .ref pa]) := hta2
            have hpa2 : PartsAt H13 pa p := hpa2
            have hb3 : b < 3 := by
              have := (List.getElem?_eq_some_iff.mp hv).1
              omega
            refine ⟨ta, _, rfl, SqT.of hta2, rfl, _, _, rfl, _, _, rfl, rfl, ?_⟩
            refine ⟨_, rfl, _, rfl, _, rfl, wt, _, 1, _, rfl, rfl, SqT.of (s12 _ _ hw), atI_nat (j := 1) rfl, _, rfl, wt, _, 2, _, rfl, rfl, SqT.of (s12 _ _ hw), atI_nat (j := 2) rfl, ra, pa, r, p, wr.len, wr.mode, rfl, hR.mono s12, hpa2, ok, fun t na H14 s14 ht hna => ?_⟩
            have hna : PartsAt H14 na (aw r p wr.len wr.mode) := hna
            refine ⟨t, _, 0, _, rfl, rfl, SqT.of ht, atI_nat (j := 0) rfl, ?_⟩
            have btab14 := btab.kd (KD.of s14)
            have he14 := s14 _ _ he12
            have hd14 := s14 _ _ hd12
            refine ⟨_, rfl, _, rfl, na, e, aw r p wr.len wr.mode, brows, rfl, rfl, .inl he14, btab14.at_, hna.nk, _, rfl, ?_⟩
            obtain ⟨w1, w2, w3⟩ := ways.sound (n, p) (List.mem_of_getElem? hv)
            have ls1 : ∀ (bk' : List (Parts × List Int)), (∀ v ∈ ls.take b, ∃ y ∈ bk', y.1 = aw r v.2 wr.len wr.mode) → (∃ y ∈ bk', y.1 = aw r p wr.len wr.mode) → ∀ v ∈ ls.take (b + 1), ∃ y ∈ bk', y.1 = aw r v.2 wr.len wr.mode := by
              intro bk' h1 h2 v hv'
              rw [List.take_add_one, hv] at hv'
              rcases List.mem_append.mp hv' with z | z
              · exact h1 v z
              · have : v = (n, p) := by simpa using z
                subst this
                exact h2
            rcases btab14.rel.val (aw r p wr.len wr.mode) with ⟨e1, e2⟩ | ⟨v, m', e1, e2, e3⟩
            · rw [e1]
              refine iteT ?_
              have tab14 := tab8.kd (k0.trans (KD.of s14))
              rcases tab14.rel.val m.1 with ⟨f1, f2⟩ | ⟨v, m', f1, f2, lv, rfl, hlv⟩
              · exact absurd (List.mem_map.mpr ⟨m, mk, rfl⟩) f2
              have hpa14 : PartsAt H14 row.2.1 m.1 := PartsAt.kd hpa ((KD.of s11).trans (k12.trans (KD.of s14)))
              refine ⟨_, rfl, _, rfl, d, row.2.1, m.1, rows, _, rfl, rfl, .inr ⟨od, hd14⟩, tab14.at_, hpa14.nk, f1, ?_⟩
              refine ⟨_, rfl, (by show 1 ≤ sizeLine; decide), fun l1 hl1 => ?_⟩
              have hm' : m'.length = i := (reach.sound _ f2).1.1
              refine ⟨lv, l1, _, _, rfl, rfl, upd_new hl1 hlv, upd_same, by rw [List.length_map, hm']; show i + 1 ≤ sizeLine; exact Nat.le_of_lt (small1000 (by omega)), fun l2 hl2 => ?_⟩
              have k16 := (KD.new hl1 (o := .lst [V.int n])).trans (KD.new hl2 (o := .lst (m'.map V.int ++ [V.int n])))
              have s16 := same_new (same_new s14 hl1 (o := .lst [V.int n])) hl2 (o := .lst (m'.map V.int ++ [V.int n]))
              have he16 := upd_new hl2 (upd_new hl1 he14 (o := .lst [V.int n])) (o := .lst (m'.map V.int ++ [V.int n]))
              have hd16 := upd_new hl2 (upd_new hl1 hd14 (o := .lst [V.int n])) (o := .lst (m'.map V.int ++ [V.int n]))
              have hl16 : (upd (upd H14 l1 (.lst [V.int n])) l2 (.lst (m'.map V.int ++ [V.int n]))) l2 = some (.lst ((m' ++ [n]).map V.int)) := by rw [upd_same, List.map_append]; rfl
              generalize upd (upd H14 l1 (.lst [V.int n])) l2 (.lst (m'.map V.int ++ [V.int n])) = H16 at k16 s16 he16 hd16 hl16
              have btab16 := btab14.kd k16
              refine ⟨_, rfl, _, rfl, e, na, aw r p wr.len wr.mode, brows, rfl, rfl, he16, btab16.at_, (PartsAt.kd hna k16).nk, by rw [btab16.rel.length]; exact small1000 (by omega), ?_⟩
              have k17 : KD H16 (upd H16 e (dN P w EP e (putN brows (aw r p wr.len wr.mode) na (.ref l2)))) := KD.ext he16
              refine ⟨_, mput bk (aw r p wr.len wr.mode) (m' ++ [n]), _, _, _, rfl, same_put (s12.trans s16) heH, k12.trans ((KD.of s14).trans (k16.trans k17)), by rw [upd_ne (fun z => ned z.symm)]; exact hd16, upd_same, ⟨?_, ?_⟩, ⟨fun y hy => ?_⟩, fun x hx k k0 k1 => has_put (bC x hx k k0 k1), ls1 _ (fun v hv => has_put (bV v hv)) ⟨_, mem_mput_self _ _ _, rfl⟩, ?_⟩
              · exact (btab16.rel.mono fun _ _ q => q.kd k17).put _ na ⟨l2, rfl, k17.l _ _ hl16⟩
              · exact (btab16.keys.mono fun _ _ q => PartsAt.kd q k17).put _ (PartsAt.kd hna (k16.trans k17))
              · rcases mem_mput hy with rfl | ⟨hy, _⟩
                · exact ⟨_, f2, n, w1, w2, by rw [← w3]⟩
                · exact bS.s y hy
              · have := mput_length bk (aw r p wr.len wr.mode) (m' ++ [n])
                omega
            · rw [e1]
              refine iteF ?_
              exact ⟨brows, bk, _, _, _, rfl, s12.trans s14, k12.trans (KD.of s14), hd14, he14, btab14, bS, bC, ls1 _ bV ⟨_, e2, rfl⟩, by omega⟩
          · rintro σ H12 ⟨brows, bk, w9, w10, w11, rfl, s12, k12, hd12, he12, btab, bS, bC, bV, blen⟩
            refine ⟨brows, bk, _, _, _, _, _, rfl, s12, k9.trans ((KD.of s11).trans k12), hd12, he12, btab, bS, fun x hx => ?_, ?_⟩
            · rw [List.take_add_one, hm] at hx
              rcases List.mem_append.mp hx with z | z
              · exact bC x z
              · have : x = m := by simpa using z
                subst this
                intro k k0 k1
                obtain ⟨v, hv, ev⟩ := ways.all k k0 k1
                rw [List.length_map, hAs.len, List.take_length] at bV
                obtain ⟨y, hy, ey⟩ := bV v hv
                exact ⟨y, hy, by rw [ey, ev]⟩
            · rw [List.length_map, hAs.len] at blen
              omega
      · rintro σ H9 ⟨brows, bk, v7, v8, v9, v10, v11, rfl, s9, k9, hd9, he9, btab, bS, bC, blen⟩
        refine ⟨hd9, ?_⟩
        have kU : KD H9 (upd H9 d (dN P w EP d rows)) := KD.frz hd9
        refine ⟨_, rfl, e, brows, bk, _, _, _, _, _, _, _, _, rfl, same_put s9 hd, heH, by rw [upd_ne ned]; exact he9, btab.kd kU, LW.reach_step2 reach ew bS.s ?_, ?_⟩
        · rw [tab8.rel.length, List.take_length] at bC
          exact bC
        · have := tab8.rel.length
          rw [this] at blen
          rw [Nat.pow_succ]
          omega
    · clear tab0 hd3 s3 k2 hd2 s2 hl0 hp1 hd1 s1 ht0 s0
      rintro σ H5 ⟨d, rows, kvs, u4, u5, u6, u7, u8, u9, u10, u11, rfl, s5, hd, hd5, tab, reach, hlen⟩
      have el : (ts.map V.ref).length = tw.length := by rw [List.length_map, hTs.len]
      rw [el] at reach hlen
      intro f hf
      have hfH : H f = none := s5.free hf
      have nfd : f ≠ d := fun z => by rw [z, hd5] at hf; cases hf
      have s7 := same_new s5 hf (o := dN P w EQ f [])
      have hd7 : (upd H5 f (dN P w EQ f [])) d = some (dN P w EP d rows) := upd_new hf hd5
      have hf7 : (upd H5 f (dN P w EQ f [])) f = some (dN P w EQ f []) := upd_same
      have tab7 : TabP P w (upd H5 f (dN P w EQ f [])) d rows kvs := tab.kd (KD.new hf)
      generalize upd H5 f (dN P w EQ f []) = H8 at s7 hd7 hf7 tab7
      refine ⟨d, _, hd7, True.intro, fun od => ?_⟩
      have s8 : Same H (upd H8 d (.frz od (dN P w EP d rows))) := same_put s7 hd
      have hd8 : (upd H8 d (.frz od (dN P w EP d rows))) d = some (.frz od (dN P w EP d rows)) := upd_same
      have hf8 : (upd H8 d (.frz od (dN P w EP d rows))) f = some (dN P w EQ f []) := by rw [upd_ne nfd]; exact hf7
      have tab8 : TabP P w (upd H8 d (.frz od (dN P w EP d rows))) d rows kvs := tab7.kd (KD.ext hd7)
      generalize upd H8 d (.frz od (dN P w EP d rows)) = HL at s8 hd8 hf8 tab8
      have h243 := pow3 ht5
      refine ⟨_, rfl, d, od, rows, rfl, hd8, for_it walk_keysN (fun a σ H' => ∃ (erows : List ((Int × Int) × Addr × V)) (ek : List ((Int × Int) × List Int)) (u7 u13 : Option V),
        σ = [some (.ref ra), some (.ref wa), some (.int q0), some (.ref d), u4, u5, u6, u7, u8, u9, u10, u11, some (.ref f), u13] ∧ Same H H' ∧ KD HL H' ∧ H' d = some (.frz od (dN P w EP d rows)) ∧ H' f = some (dN P w EQ f erows) ∧
        Rows (LsV H') erows ek ∧ KeysR (fun a k => H' a = some (.tup [.int k.1, .int k.2])) erows ∧ (∀ y ∈ ek, ∃ x ∈ kvs, y = (LW.at4 r x.1, x.2)) ∧ (∀ x ∈ kvs.take a, ∃ y ∈ ek, y.1 = LW.at4 r x.1) ∧ ek.length ≤ a)
        ⟨[], [], u7, none, rfl, s8, KD.refl _, hd8, hf8, .nil, (fun x hx => (nomatch hx)), (fun y hy => (nomatch hy)), (fun x hx => by simp at hx), Nat.zero_le _⟩ (fun a σ H' _ ⟨_, _, _, _, _, _, _, z, _⟩ => z) ?_ ?_⟩
      · rintro a x σ H9 H10 ha ⟨erows, ek, v7, v13, rfl, s9, k9, hd9, hf9, erel, ekey, eS, eC, elen⟩ ⟨rfl, row, hrow, rfl⟩
        have tab9 := tab8.kd k9
        obtain ⟨m, hm, em, vm⟩ := tab9.rel.at_ hrow
        have hpa : PartsAt H10 row.2.1 m.1 := by
          rw [← em]
          exact tab9.keys row (List.mem_of_getElem? hrow)
        have mk : m ∈ kvs := List.mem_of_getElem? hm
        have hal : a < kvs.length := (List.getElem?_eq_some_iff.mp hm).1
        refine ⟨_, rfl, _, rfl, ra, row.2.1, r, m.1, rfl, hR.mono s9, hpa, fun t x y H11 s11 ht => ?_⟩
        refine ⟨_, rfl, t, _, rfl, SqT.of ht, fun z => absurd z cut4a, fun _ p hp => ?_⟩
        have hp0 : (upd H11 p (.tup (cutV [.int (LW.at4 r m.1).1, .int (LW.at4 r m.1).2, .int x, .int y] none (some 2)))) p = some (.tup [.int (LW.at4 r m.1).1, .int (LW.at4 r m.1).2]) := upd_same
        have s12 := same_new s11 hp (o := .tup (cutV [.int (LW.at4 r m.1).1, .int (LW.at4 r m.1).2, .int x, .int y] none (some 2)))
        generalize upd H11 p (.tup (cutV [.int (LW.at4 r m.1).1, .int (LW.at4 r m.1).2, .int x, .int y] none (some 2))) = H12 at hp0 s12
        have hd12 := s12 _ _ hd9
        have hf12 := s12 _ _ hf9
        have erel12 := erel.mono fun _ _ q => LsV.kd q (KD.of s12)
        have ekey12 : KeysR (fun a k => H12 a = some (.tup [.int k.1, .int k.2])) erows := ekey.mono fun _ _ q => s12 _ _ q
        have eat12 : KeysAt H12 EQ erows := ekey12.nk fun _ _ q => nkQ q
        refine ⟨_, rfl, _, rfl, p, f, LW.at4 r m.1, erows, rfl, rfl, .inl hf12, eat12, nkQ hp0, _, rfl, ?_⟩
        have ls1 : ∀ (ek' : List ((Int × Int) × List Int)), (∀ v ∈ kvs.take a, ∃ y ∈ ek', y.1 = LW.at4 r v.1) → (∃ y ∈ ek', y.1 = LW.at4 r m.1) → ∀ v ∈ kvs.take (a + 1), ∃ y ∈ ek', y.1 = LW.at4 r v.1 := by
          intro bk' h1 h2 v hv'
          rw [List.take_add_one, hm] at hv'
          rcases List.mem_append.mp hv' with z | z
          · exact h1 v z
          · have : v = m := by simpa using z
            subst this
            exact h2
        rcases erel12.val (LW.at4 r m.1) with ⟨e1, e2⟩ | ⟨v, m', e1, e2, e3⟩
        · rw [e1]
          refine iteT ?_
          have tab12 := tab9.kd (KD.of s12)
          rcases tab12.rel.val m.1 with ⟨f1, f2⟩ | ⟨v, m', f1, f2, f3⟩
          · exact absurd (List.mem_map.mpr ⟨m, mk, rfl⟩) f2
          refine ⟨_, rfl, _, rfl, d, row.2.1, m.1, rows, _, rfl, rfl, .inr ⟨od, hd12⟩, tab12.at_, (hpa.mono s12).nk, f1, ?_⟩
          refine ⟨_, rfl, _, rfl, f, p, LW.at4 r m.1, erows, rfl, rfl, hf12, eat12, nkQ hp0, by rw [erel12.length]; exact small1000 (by omega), ?_⟩
          have k13 : KD H12 (upd H12 f (dN P w EQ f (putN erows (LW.at4 r m.1) p v))) := KD.ext hf12
          refine ⟨_, mput ek (LW.at4 r m.1) m', _, _, rfl, same_put (s9.trans s12) hfH, k9.trans ((KD.of s12).trans k13), by rw [upd_ne (fun z => nfd z.symm)]; exact hd12, upd_same, (erel12.mono fun _ _ q => LsV.kd q k13).put _ p (f3.kd k13), (ekey12.mono fun _ _ q => k13.t _ _ q).put _ (k13.t _ _ hp0), fun y hy => ?_, ls1 _ (fun v hv => has_put (eC v hv)) ⟨_, mem_mput_self _ _ _, rfl⟩, ?_⟩
          · rcases mem_mput hy with rfl | ⟨hy, _⟩
            · exact ⟨_, f2, rfl⟩
            · exact eS y hy
          · have := mput_length ek (LW.at4 r m.1) m'
            omega
        · rw [e1]
          refine iteF ?_
          exact ⟨erows, ek, _, _, rfl, s9.trans s12, k9.trans (KD.of s12), hd12, hf12, erel12, ekey12, eS, ls1 _ eC ⟨_, e2, rfl⟩, by omega⟩
      · rintro σ H9 ⟨erows, ek, v7, v13, rfl, s9, k9, hd9, hf9, erel, ekey, eS, eC, elen⟩
        refine ⟨hd9, ?_⟩
        have kU : KD H9 (upd H9 d (dN P w EP d rows)) := KD.frz hd9
        rw [tab8.rel.length, List.take_length] at eC
        rw [tab8.rel.length] at elen
        exact ⟨_, rfl, q f _ erows ek (same_put s9 hd) hfH (by rw [upd_ne nfd]; exact hf9) (erel.mono fun _ _ q => LsV.kd q kU) (ekey.mono fun _ _ q => kU.t _ _ q) (Nat.le_trans elen hlen) (LW.ends_of reach eS eC)⟩
end
end Lw

namespace Lw
open PySem PySem.Spec PyProof.Rows L2
open LW (Hold Mode Pol Cfg Write Side Scene Parts Way Rule Ways acN Reach EndsOf aw Best TP stopAt qget qset total best0 PlanP)
/-- (stalls, order) -/
def BV (H : Hp) (v : V) (b : Int × List Int) : Prop := ∃ t l, v = .ref t ∧ H t = some (.tup [.int b.1, .ref l]) ∧ H l = some (.lst (b.2.map V.int))
theorem BV.kd {H H' : Hp} {v : V} {b : Int × List Int} (h : BV H v b) (s : KD H H') : BV H' v b := by
  obtain ⟨t, l, h1, h2, h3⟩ := h
  exact ⟨t, l, h1, s.t _ _ h2, s.l _ _ h3⟩
structure BestT (H : Hp) (rows : List ((Int × Int) × Addr × V)) (kvs : List ((Int × Int) × (Int × List Int))) : Prop where
  rel : Rows (BV H) rows kvs
  keys : KeysR (fun a k => H a = some (.tup [.int k.1, .int k.2])) rows
  nd : (kvs.map Prod.fst).Nodup
theorem BestT.kd {H H' : Hp} {rows : List ((Int × Int) × Addr × V)} {kvs : List ((Int × Int) × (Int × List Int))} (h : BestT H rows kvs) (s : KD H H') : BestT H' rows kvs :=
  ⟨h.rel.mono fun _ _ q => q.kd s, h.keys.mono fun _ _ q => s.t _ _ q, h.nd⟩
theorem BestT.at_ {H : Hp} {rows : List ((Int × Int) × Addr × V)} {kvs : List ((Int × Int) × (Int × List Int))} (h : BestT H rows kvs) : KeysAt H EQ rows := h.keys.nk fun _ _ q => nkQ q
theorem uniq {κ β : Type} {kvs : List (κ × β)} (h : (kvs.map Prod.fst).Nodup) {k : κ} {b b' : β} (h1 : (k, b) ∈ kvs) (h2 : (k, b') ∈ kvs) : b = b' := by
  induction kvs with
  | nil => cases h1
  | cons x xs ih =>
    rw [List.map_cons, List.nodup_cons] at h
    rcases List.mem_cons.mp h1 with e1 | e1
    · rcases List.mem_cons.mp h2 with e2 | e2
      · have := e1.trans e2.symm
        exact (Prod.mk.inj this).2
      · exact absurd (List.mem_map.mpr ⟨_, e2, by rw [← e1]⟩) h.1
    · rcases List.mem_cons.mp h2 with e2 | e2
      · exact absurd (List.mem_map.mpr ⟨_, e1, by rw [← e2]⟩) h.1
      · exact ih h.2 e1 e2
theorem BestT.val {H : Hp} {rows : List ((Int × Int) × Addr × V)} {kvs : List ((Int × Int) × (Int × List Int))} (h : BestT H rows kvs) {x : (Int × Int) × (Int × List Int)} (hx : x ∈ kvs) : ∃ v, valN rows x.1 = some v ∧ BV H v x.2 := by
  rcases h.rel.val x.1 with ⟨e1, e2⟩ | ⟨v, b, e1, e2, e3⟩
  · exact absurd (List.mem_map.mpr ⟨x, hx, rfl⟩) e2
  · have : b = x.2 := uniq h.nd e2 hx
    subst this
    exact ⟨v, e1, e3⟩
structure CfgOk (c : Cfg) : Prop where
  s1 : 1 ≤ c.size
  s2 : c.size ≤ 1000000
  p : ∀ e, PolOk (c.pol e)
theorem CfgOk.rule {c : Cfg} (h : CfgOk c) (e : Bool) : RuleOk (c.rule e) := ⟨h.s1, h.s2, (h.p (!e)).e0, (h.p (!e)).e9⟩
theorem take_slice {α : Type} (f : α → V) (xs : List α) {m m' : Nat} (h1 : m ≤ m') (h2 : m' ≤ xs.length) : cutV (xs.map f) (some (m : Int)) (some (m' : Int)) = ((xs.drop m).take (m' - m)).map f := by
  unfold cutV
  rw [HT.sIx_nat, HT.sIx_nat, List.length_map, Nat.min_eq_left h2, Nat.min_eq_left (Nat.le_trans h1 h2), ← List.map_drop, ← List.map_take]
section
variable {P : Program} {w : World} {K : PySem.W.Frag} {mg : Str → Option Value} {base : Heap}
def StepB (cfg : Cfg) (s : Bool) (tw : List Write) (kvs bk : List ((Int × Int) × (Int × List Int))) : Prop :=
  ∀ y ∈ bk, ∃ x ∈ kvs, ∃ ends, EndsOf (cfg.rule s) tw (qget x.1 !s) ends ∧ ∃ v ∈ ends, y = (qset x.1 (!s) v.1.2, (x.2.1 + v.1.1, x.2.2 ++ v.2))
def HasB (sg : Int) (bk : List ((Int × Int) × (Int × List Int))) (k : Int × Int) (n : Int) : Prop := ∃ y ∈ bk, y.1 = k ∧ sg * y.2.1 ≤ sg * n
theorem hasB_put {sg : Int} {bk : List ((Int × Int) × (Int × List Int))} {k k' : Int × Int} {n : Int} {b : Int × List Int} (h : HasB sg bk k n) (nd : (bk.map Prod.fst).Nodup) (c : (∀ b', (k', b') ∈ bk → sg * b.1 ≤ sg * b'.1)) : HasB sg (mput bk k' b) k n := by
  obtain ⟨y, hy, ey, le⟩ := h
  by_cases e : k = k'
  · subst e
    exact ⟨_, mem_mput_self bk k b, rfl, Int.le_trans (c y.2 (by rw [← ey]; exact hy)) le⟩
  · exact ⟨y, mem_mput_ne hy (fun q => e (ey.symm.trans q)), ey, le⟩
def spBestOrders (K : PySem.W.Frag) : Sp := fun vs H Q _ => ∃ (sa wa : Addr) (cfg : Cfg) (ws : List Write) (sg : Int), vs = [.ref sa, .ref wa, .int sg] ∧ SetAt K H sa cfg ∧ CfgOk cfg ∧ ConvAt H wa ws ∧ ws.length ≤ 5 ∧ (sg = 1 ∨ sg = -1) ∧
  ∀ (t : Addr) (H' : Hp) (ks : List Int), Same H H' → BV H' (.ref t) (best0 cfg sg ws, ks) → PlanP ws ws.length ks → total cfg ws ks = best0 cfg sg ws → Q (.ref t) H'
theorem c_best_orders (T : Txt K mg) : Con P w K mg base 5 (He.ga K "best_orders") ["setting", "conversation", "sign"] [] (spBestOrders K) := by
  refine con_of T.d_best_orders rfl rfl sc_best_orders (fun _ _ _ _ _ _ us hl => match us, hl with | [_, _, _], _ => rfl) (fun vs H Q E h => ?_) (fun cdv A outer s H vs Q E hr h => ?_)
  · obtain ⟨sa, wa, cfg, ws, sg, rfl, _⟩ := h
    rfl
  · obtain ⟨sa, wa, cfg, ws, sg, rfl, hS, ok, hW, hw5, hsg, q⟩ := h
    have nd := sc_best_orders.nd
    have hu := hr.units
    refine ⟨_, pss_cons (ss 3 nd (oneN EQ P w hu (call_c (c_first_quick T) (hr.mono (by decide)) T.g_first_quick (pa_cons (pv 0) pa_nil)) (pe_tup (pa_cons pe_int (pa_cons (pe_lst pa_nil) pa_nil)))))
      (pss_cons (ps_for PassesOwn.never rfl (pi_list (call_c (c_split_turns T) (hr.mono (by decide)) T.g_split_turns (pa_cons (pv 1) pa_nil))) (pg_tup rfl (pgs_cons (gn 4 nd) (pgs_cons (gn 5 nd) (pgs_cons (gn 6 nd) pgs_nil))))
        (pss_cons (ss 7 nd (call_c (c_rules_of T) (hr.mono (by decide)) T.g_rules_of (pa_cons (pv 0) (pa_cons (pv 4) pa_nil))))
        (pss_cons (ss 8 nd (newN EQ P w))
        (pss_cons (ps_lock (ps_for PassesOwn.never rfl (keysN EQ P w (pv 3)) (gn 9 nd)
          (pss_cons (ps_asg (getN EQ P w hu (pv 3) (pv 9) (fun _ _ => rfl)) (pg_tup rfl (pgs_cons (gn 10 nd) (pgs_cons (gn 11 nd) pgs_nil))))
          (pss_cons (ss 12 nd (call_c (c_turn_ends T) hr T.g_turn_ends (pa_cons (pv 7) (pa_cons (pe_slice sl_list (pv 1) (po_some (pv 5)) (po_some (pv 6))) (pa_cons (pe_ix ix_tup (pv 9) (pe_op op_sub pe_int (pv 4)) (fun _ _ => rfl)) pa_nil)))))
          (pss_one (ps_lock (ps_for PassesOwn.never rfl (keysN EQ P w (pv 12)) (pg_tup rfl (pgs_cons (gn 13 nd) (pgs_cons (gn 14 nd) pgs_nil)))
            (pss_cons (ss 15 nd (call_c (c_with_quick T) (hr.mono (by decide)) T.g_with_quick (pa_cons (pv 9) (pa_cons (pe_op op_sub pe_int (pv 4)) (pa_cons (pv 14) pa_nil)))))
            (pss_one (ps_if (PW.pt (pw_or (pt_cmpR (notInN EQ P w hu) (pv 15) (pv 8) rfl) (pw_or1 (pt_cmpR op_lt (pe_op op_mul (pv 2) (pe_op op_add (pv 10) (pv 13))) (pe_op op_mul (pv 2) (pe_ix ix_tup (getN EQ P w hu (pv 8) (pv 15) (fun _ _ => rfl)) pe_int (fun _ _ => rfl))) (nomark _)))))
              (pss_one (nput EQ P w hu (pv 8) (pv 15) (pe_tup (pa_cons (pe_op op_add (pv 10) (pv 13)) (pa_cons (pe_op op_cat (pv 11) (getN EQ P w hu (pv 12) (pe_tup (pa_cons (pv 13) (pa_cons (pv 14) pa_nil))) (fun _ _ => rfl))) pa_nil))))) pss_nil))))))))))
        (pss_one (ss 3 nd (pv 8)))))))
      (pss_cons (ss 16 nd pe_non)
      (pss_cons (ps_lock (ps_for PassesOwn.never rfl (keysN EQ P w (pv 3)) (gn 9 nd)
        (pss_one (ps_if (PW.pt (pw_or (pt_cmpR op_isN (pv 16) pe_non (nomark _)) (pw_or1 (pt_cmpR op_lt (pe_op op_mul (pv 2) (pe_ix ix_tup (getN EQ P w hu (pv 3) (pv 9) (fun _ _ => rfl)) pe_int (fun _ _ => rfl))) (pe_op op_mul (pv 2) (pe_ix ix_tup (pv 16) pe_int (fun _ _ => rfl))) (nomark _)))))
          (pss_one (ss 16 nd (getN EQ P w hu (pv 3) (pv 9) (fun _ _ => rfl)))) pss_nil))))
      (pss_one (ps_ret (pv 16)))))), ?_⟩
    obtain ⟨cs, hcs, hcW⟩ := id hW
    intro d hd
    have s0 := same_new (Same.refl H) hd (o := dN P w EQ d ([] : List ((Int × Int) × Addr × V)))
    have hd0 : (upd H d (dN P w EQ d ([] : List ((Int × Int) × Addr × V)))) d = some (dN P w EQ d []) := upd_same
    generalize upd H d (dN P w EQ d ([] : List ((Int × Int) × Addr × V))) = H0 at s0 hd0
    refine ⟨_, rfl, sa, cfg, rfl, hS.mono s0, fun t0 H1 s1 hq0 => ⟨Nat.zero_le _, fun l0 hl0 => ⟨(by show 2 ≤ sizeLine; decide), fun t1 ht1 => ?_⟩⟩⟩
    have s2 := same_new (same_new s1 hl0 (o := .lst [])) ht1 (o := .tup [.int 0, .ref l0])
    have hq2 := QAt.mono hq0 (same_new (same_new (Same.refl _) hl0 (o := .lst [])) ht1 (o := .tup [.int 0, .ref l0]))
    have hb2 : BV (upd (upd H1 l0 (.lst [])) t1 (.tup [.int 0, .ref l0])) (.ref t1) (0, []) := ⟨t1, l0, rfl, upd_same, upd_new ht1 upd_same⟩
    generalize upd (upd H1 l0 (.lst [])) t1 (.tup [.int 0, .ref l0]) = H2 at s2 hq2 hb2
    refine ⟨t0, LW.quick0 cfg, rfl, s2 _ _ hd0, nkQ hq2, ?_⟩
    have k3 : KD H2 (upd H2 d (dN P w EQ d [(LW.quick0 cfg, t0, .ref t1)])) := KD.ext (s2 _ _ hd0)
    have tab3 : BestT (upd H2 d (dN P w EQ d [(LW.quick0 cfg, t0, .ref t1)])) [(LW.quick0 cfg, t0, .ref t1)] [(LW.quick0 cfg, (0, []))] :=
      ⟨.cons rfl (hb2.kd k3) .nil, fun x hx => by rw [List.mem_singleton.mp hx]; exact k3.t _ _ hq2, by simp⟩
    have s3 : Same H (upd H2 d (dN P w EQ d [(LW.quick0 cfg, t0, .ref t1)])) := same_put (s0.trans s2) hd
    have hd3 : (upd H2 d (dN P w EQ d [(LW.quick0 cfg, t0, .ref t1)])) d = some (dN P w EQ d [(LW.quick0 cfg, t0, .ref t1)]) := upd_same
    generalize upd H2 d (dN P w EQ d [(LW.quick0 cfg, t0, .ref t1)]) = H3 at k3 tab3 s3 hd3
    clear k3 hb2 hq2 s2 ht1 hl0 hq0 s1 hd0 s0
    refine ⟨_, rfl, wa, ws, rfl, hW.mono s3, Nat.le_trans hw5 (by decide), fun tl H4 ts s4 htl tA tp => ?_⟩
    obtain ⟨as, htA, hAs⟩ := tA
    obtain ⟨tpE, tpT⟩ := tp.at_
    have hS4 : Same H H4 := s3.trans s4
    refine ⟨tl, rfl, ⟨_, SqL.of htA⟩, for_it walk_list (fun j σ H' => ∃ (d : Addr) (rows : List ((Int × Int) × Addr × V)) (kvs : List ((Int × Int) × (Int × List Int))) (u4 u5 u6 u7 u8 u9 u10 u11 u12 u13 u14 u15 : Option V),
      σ = [some (.ref sa), some (.ref wa), some (.int sg), some (.ref d), u4, u5, u6, u7, u8, u9, u10, u11, u12, u13, u14, u15, none] ∧ Same H H' ∧ KD H4 H' ∧ H d = none ∧ H' d = some (dN P w EQ d rows) ∧ BestT H' rows kvs ∧ Best cfg ws sg (stopAt ts j) kvs ∧ kvs.length ≤ 3 ^ (stopAt ts j))
      ⟨d, _, _, none, none, none, none, none, none, none, none, none, none, none, none, rfl, hS4, KD.refl _, hd, s4 _ _ hd3, tab3.kd (KD.of s4), LW.best_start, (by show 1 ≤ 1; decide)⟩ (fun j σ H' _ ⟨_, _, _, _, _, _, _, _, _, _, _, _, _, _, _, _, _, z, _⟩ => SqL.of (z.l _ _ htA)) ?_ ?_⟩
    · clear tab3 hd3 s3 hS4
      rintro j x σ H5 H6 hj ⟨d, rows, kvs, u4, u5, u6, u7, u8, u9, u10, u11, u12, u13, u14, u15, rfl, s5, k5, hd, hd5, tab, best, hlen⟩ ⟨rfl, hx⟩
      obtain ⟨ta, hta, rfl⟩ := ref_at hx
      obtain ⟨⟨sp, m, m'⟩, hturn, hT0⟩ := hAs.get' hta
      have hT5 : H6 ta = some (.tup [.int (eV sp), .int (m : Nat), .int (m' : Nat)]) := k5.t _ _ hT0
      obtain ⟨st1, st2, isT⟩ := tpT j sp m m' hturn
      rw [st1] at best hlen
      refine ⟨ta, _, rfl, SqT.of hT5, rfl, _, _, rfl, _, _, rfl, _, _, rfl, rfl, ?_⟩
      refine ⟨_, rfl, _, rfl, sa, cfg, sp, rfl, hS.mono s5, fun ra hra => ?_⟩
      have s6 := same_new s5 hra (o := .tup [.int (cfg.rule sp).size, .str (hV (cfg.rule sp).hold), .int (cfg.rule sp).every])
      have hd6 := upd_new hra hd5 (o := .tup [.int (cfg.rule sp).size, .str (hV (cfg.rule sp).hold), .int (cfg.rule sp).every])
      have hR6 : RuleAt (upd H6 ra (.tup [.int (cfg.rule sp).size, .str (hV (cfg.rule sp).hold), .int (cfg.rule sp).every])) ra (cfg.rule sp) := upd_same
      have k6 := k5.trans (KD.new hra (o := .tup [.int (cfg.rule sp).size, .str (hV (cfg.rule sp).hold), .int (cfg.rule sp).every]))
      have tab6 := tab.kd (KD.new hra (o := .tup [.int (cfg.rule sp).size, .str (hV (cfg.rule sp).hold), .int (cfg.rule sp).every]))
      generalize upd H6 ra (.tup [.int (cfg.rule sp).size, .str (hV (cfg.rule sp).hold), .int (cfg.rule sp).every]) = H7 at s6 hd6 hR6 k6 tab6
      intro e he
      have heH : H e = none := s6.free he
      have ned : e ≠ d := fun z => by rw [z, hd6] at he; cases he
      have s7 := same_new s6 he (o := dN P w EQ e ([] : List ((Int × Int) × Addr × V)))
      have hd7 := upd_new he hd6 (o := dN P w EQ e ([] : List ((Int × Int) × Addr × V)))
      have he7 : (upd H7 e (dN P w EQ e ([] : List ((Int × Int) × Addr × V)))) e = some (dN P w EQ e []) := upd_same
      have kk := KD.new he (o := dN P w EQ e ([] : List ((Int × Int) × Addr × V)))
      have tab7 := tab6.kd kk
      have hR7 : RuleAt (upd H7 e (dN P w EQ e ([] : List ((Int × Int) × Addr × V)))) ra (cfg.rule sp) := kk.t _ _ hR6
      have k7 := k6.trans kk
      clear kk
      generalize upd H7 e (dN P w EQ e ([] : List ((Int × Int) × Addr × V))) = H8 at s7 hd7 he7 tab7 hR7 k7
      refine ⟨d, _, hd7, True.intro, fun od => ?_⟩
      have s8 : Same H (upd H8 d (.frz od (dN P w EQ d rows))) := same_put s7 hd
      have hd8 : (upd H8 d (.frz od (dN P w EQ d rows))) d = some (.frz od (dN P w EQ d rows)) := upd_same
      have he8 : (upd H8 d (.frz od (dN P w EQ d rows))) e = some (dN P w EQ e []) := by rw [upd_ne ned]; exact he7
      have kl : KD H8 (upd H8 d (.frz od (dN P w EQ d rows))) := KD.ext hd7
      have tab8 := tab7.kd kl
      have hR8 : RuleAt (upd H8 d (.frz od (dN P w EQ d rows))) ra (cfg.rule sp) := kl.t _ _ hR7
      have k8 := k7.trans kl
      clear kl
      generalize upd H8 d (.frz od (dN P w EQ d rows)) = HL at s8 hd8 he8 tab8 hR8 k8
      have hmm : m < m' := isT.lt
      have hmw : m' ≤ ws.length := isT.le
      generalize hE : 3 ^ (m' - m) = EE
      have hEE : 3 ^ m * EE = 3 ^ m' := by rw [← hE, ← Nat.pow_add]; congr 1; omega
      have h243 : 3 ^ m' ≤ 243 := pow3 (by omega)
      refine ⟨_, rfl, d, od, rows, rfl, hd8, for_it walk_keysN (fun a σ H' => ∃ (brows : List ((Int × Int) × Addr × V)) (bk : List ((Int × Int) × (Int × List Int))) (u9 u10 u11 u12 u13 u14 u15 : Option V),
        σ = [some (.ref sa), some (.ref wa), some (.int sg), some (.ref d), some (.int (eV sp)), some (.int (m : Nat)), some (.int (m' : Nat)), some (.ref ra), some (.ref e), u9, u10, u11, u12, u13, u14, u15, none] ∧ Same H H' ∧ KD HL H' ∧ H' d = some (.frz od (dN P w EQ d rows)) ∧ H' e = some (dN P w EQ e brows) ∧
        BestT H' brows bk ∧ StepB cfg sp ((ws.drop m).take (m' - m)) kvs bk ∧ (∀ x ∈ kvs.take a, ∃ ends, EndsOf (cfg.rule sp) ((ws.drop m).take (m' - m)) (qget x.1 !sp) ends ∧ ∀ v ∈ ends, HasB sg bk (qset x.1 (!sp) v.1.2) (x.2.1 + v.1.1)) ∧ bk.length ≤ a * EE)
        ⟨[], [], _, _, _, _, _, _, _, rfl, s8, KD.refl _, hd8, he8, ⟨.nil, (fun x hx => (nomatch hx)), List.nodup_nil⟩, (fun y hy => (nomatch hy)), (fun x hx => by simp at hx), Nat.zero_le _⟩ (fun a σ H' _ ⟨_, _, _, _, _, _, _, _, _, _, _, _, z, _⟩ => z) ?_ ?_⟩
      · rintro a x σ H9 H10 ha ⟨brows, bk, v9, v10, v11, v12, v13, v14, v15, rfl, s9, k9, hd9, he9, btab, bS, bC, blen⟩ ⟨rfl, row, hrow, rfl⟩
        have tab9 := tab8.kd k9
        obtain ⟨mm, hm, em, vm⟩ := tab9.rel.at_ hrow
        have hqa : H10 row.2.1 = some (.tup [.int mm.1.1, .int mm.1.2]) := by
          rw [← em]
          exact tab9.keys row (List.mem_of_getElem? hrow)
        have mk : mm ∈ kvs := List.mem_of_getElem? hm
        have hal : a < kvs.length := (List.getElem?_eq_some_iff.mp hm).1
        obtain ⟨v, ev, t2, l2, rfl, ht2, hl2⟩ := tab9.val mk
        refine ⟨_, rfl, _, rfl, d, row.2.1, mm.1, rows, _, rfl, rfl, .inr ⟨od, hd9⟩, tab9.at_, nkQ hqa, ev, ?_⟩
        refine ⟨t2, _, rfl, SqT.of ht2, rfl, _, _, rfl, _, _, rfl, rfl, ?_⟩
        have hcs10 := s9 _ _ hcs
        refine ⟨_, rfl, _, rfl, _, rfl, _, rfl, _, rfl, _, rfl, wa, _, rfl, SqL.of hcs10, fun cw hcw => ?_⟩
        have ecut : cutV (cs.map V.ref) (some (m : Int)) (some (m' : Int)) = ((cs.drop m).take (m' - m)).map V.ref := take_slice _ _ (by omega) (by rw [hcW.len]; exact hmw)
        rw [ecut]
        have s11 := same_new s9 hcw (o := .lst (((cs.drop m).take (m' - m)).map V.ref))
        have k11 := KD.new hcw (o := .lst (((cs.drop m).take (m' - m)).map V.ref))
        have hd11 := upd_new hcw hd9 (o := .lst (((cs.drop m).take (m' - m)).map V.ref))
        have he11 := upd_new hcw he9 (o := .lst (((cs.drop m).take (m' - m)).map V.ref))
        have hW11 : ConvAt (upd H10 cw (.lst (((cs.drop m).take (m' - m)).map V.ref))) cw ((ws.drop m).take (m' - m)) := ⟨_, upd_same, ((hcW.drop m).take (m' - m)).mono fun b x q => s11 _ _ q⟩
        generalize upd H10 cw (.lst (((cs.drop m).take (m' - m)).map V.ref)) = H11 at s11 k11 hd11 he11 hW11
        obtain ⟨qs, hqs, hqi⟩ := QAt.at_ (show QAt H11 row.2.1 mm.1 from k11.t _ _ hqa) (!sp)
        rw [eV_not] at hqi
        have ltw : ((ws.drop m).take (m' - m)).length = m' - m := by rw [List.length_take, List.length_drop]; omega
        refine ⟨_, rfl, _, rfl, _, _, rfl, rfl, row.2.1, qs, _, _, rfl, rfl, SqT.of hqs, hqi, ra, cw, cfg.rule sp, _, _, rfl, (k9.trans k11).t _ _ hR8, ok.rule sp, hW11, by rw [ltw]; omega, fun f H12 erows ends s12 hf0 hf12 erel ekey elen ends_of => ?_⟩
        rw [ltw, hE] at elen
        have hf12 : H12 f = some (dN P w EQ f erows) := hf12
        have nfd : f ≠ d := fun z => by rw [z, hd11] at hf0; cases hf0
        have nfe : f ≠ e := fun z => by rw [z, he11] at hf0; cases hf0
        have hfH : H f = none := s11.free hf0
        have hd12 := s12 _ _ hd11
        have he12 := s12 _ _ he11
        have k12 := k11.trans (KD.of s12)
        have sH12 := s11.trans s12
        refine ⟨f, _, hf12, True.intro, fun of => ?_⟩
        have s13 : Same H (upd H12 f (.frz of (dN P w EQ f erows))) := same_put sH12 hfH
        have hf13 : (upd H12 f (.frz of (dN P w EQ f erows))) f = some (.frz of (dN P w EQ f erows)) := upd_same
        have hd13 : (upd H12 f (.frz of (dN P w EQ f erows))) d = some (.frz od (dN P w EQ d rows)) := by rw [upd_ne nfd.symm]; exact hd12
        have he13 : (upd H12 f (.frz of (dN P w EQ f erows))) e = some (dN P w EQ e brows) := by rw [upd_ne nfe.symm]; exact he12
        have kf : KD H12 (upd H12 f (.frz of (dN P w EQ f erows))) := KD.ext hf12
        have k13 := k12.trans kf
        have erel13 := erel.mono fun _ _ q => LsV.kd q kf
        have ekey13 : KeysR (fun a k => (upd H12 f (.frz of (dN P w EQ f erows))) a = some (.tup [.int k.1, .int k.2])) erows := ekey.mono fun _ _ q => kf.t _ _ q
        clear kf
        generalize upd H12 f (.frz of (dN P w EQ f erows)) = HM at s13 hf13 hd13 he13 k13 erel13 ekey13
        refine ⟨_, rfl, f, of, erows, rfl, hf13, for_it walk_keysN (fun b σ H' => ∃ (brows : List ((Int × Int) × Addr × V)) (bk : List ((Int × Int) × (Int × List Int))) (u13 u14 u15 : Option V),
          σ = [some (.ref sa), some (.ref wa), some (.int sg), some (.ref d), some (.int (eV sp)), some (.int (m : Nat)), some (.int (m' : Nat)), some (.ref ra), some (.ref e), some (.ref row.2.1), some (.int mm.2.1), some (.ref l2), some (.ref f), u13, u14, u15, none] ∧ Same H H' ∧ KD HM H' ∧ H' f = some (.frz of (dN P w EQ f erows)) ∧ H' d = some (.frz od (dN P w EQ d rows)) ∧ H' e = some (dN P w EQ e brows) ∧
          BestT H' brows bk ∧ StepB cfg sp ((ws.drop m).take (m' - m)) kvs bk ∧ (∀ x ∈ kvs.take a, ∃ ends, EndsOf (cfg.rule sp) ((ws.drop m).take (m' - m)) (qget x.1 !sp) ends ∧ ∀ v ∈ ends, HasB sg bk (qset x.1 (!sp) v.1.2) (x.2.1 + v.1.1)) ∧
          (∀ v ∈ ends.take b, HasB sg bk (qset mm.1 (!sp) v.1.2) (mm.2.1 + v.1.1)) ∧ bk.length ≤ a * EE + b)
          ⟨brows, bk, _, _, _, rfl, s13, KD.refl _, hf13, hd13, he13, btab.kd k13, bS, bC, (fun v hv => by simp at hv), blen⟩ (fun b σ H' _ ⟨_, _, _, _, _, _, _, _, z, _⟩ => z) ?_ ?_⟩
        · rintro b x σ H14 H15 hb ⟨brows, bk, w13, w14, w15, rfl, s14, k14, hf14, hd14, he14, btab, bS, bC, bV, blen⟩ ⟨rfl, er, her, rfl⟩
          obtain ⟨v, hv, ev1, ev2⟩ := erel13.at_ her
          have hkey : H15 er.2.1 = some (.tup [.int v.1.1, .int v.1.2]) := by
            rw [← ev1]
            exact k14.t _ _ (ekey13 er (List.mem_of_getElem? her))
          have hbl : b < ends.length := (List.getElem?_eq_some_iff.mp hv).1
          refine ⟨er.2.1, _, rfl, SqT.of hkey, rfl, _, _, rfl, _, _, rfl, rfl, ?_⟩
          have hqa15 : H15 row.2.1 = some (.tup [.int mm.1.1, .int mm.1.2]) := (k13.trans k14).t _ _ hqa
          refine ⟨_, rfl, _, rfl, _, _, rfl, rfl, _, rfl, row.2.1, mm.1, !sp, v.1.2, (by rw [eV_not]; rfl), hqa15, fun th hth => ?_⟩
          have s16 := same_new s14 hth (o := .tup [.int (qset mm.1 (!sp) v.1.2).1, .int (qset mm.1 (!sp) v.1.2).2])
          have k16 := KD.new hth (o := .tup [.int (qset mm.1 (!sp) v.1.2).1, .int (qset mm.1 (!sp) v.1.2).2])
          have hf16 := upd_new hth hf14 (o := .tup [.int (qset mm.1 (!sp) v.1.2).1, .int (qset mm.1 (!sp) v.1.2).2])
          have hd16 := upd_new hth hd14 (o := .tup [.int (qset mm.1 (!sp) v.1.2).1, .int (qset mm.1 (!sp) v.1.2).2])
          have he16 := upd_new hth he14 (o := .tup [.int (qset mm.1 (!sp) v.1.2).1, .int (qset mm.1 (!sp) v.1.2).2])
          have hth16 : (upd H15 th (.tup [.int (qset mm.1 (!sp) v.1.2).1, .int (qset mm.1 (!sp) v.1.2).2])) th = some (.tup [.int (qset mm.1 (!sp) v.1.2).1, .int (qset mm.1 (!sp) v.1.2).2]) := upd_same
          generalize upd H15 th (.tup [.int (qset mm.1 (!sp) v.1.2).1, .int (qset mm.1 (!sp) v.1.2).2]) = H16 at s16 k16 hf16 hd16 he16 hth16
          have btab16 := btab.kd k16
          refine ⟨_, rfl, _, rfl, th, e, qset mm.1 (!sp) v.1.2, brows, rfl, rfl, .inl he16, btab16.at_, nkQ hth16, _, rfl, ?_⟩
          have ls1 : ∀ (bk' : List ((Int × Int) × (Int × List Int))), (∀ v ∈ ends.take b, HasB sg bk' (qset mm.1 (!sp) v.1.2) (mm.2.1 + v.1.1)) → HasB sg bk' (qset mm.1 (!sp) v.1.2) (mm.2.1 + v.1.1) → ∀ v ∈ ends.take (b + 1), HasB sg bk' (qset mm.1 (!sp) v.1.2) (mm.2.1 + v.1.1) := by
            intro bk' h1 h2 y hy
            rw [List.take_add_one, hv] at hy
            rcases List.mem_append.mp hy with z | z
            · exact h1 y z
            · have : y = v := by simpa using z
              subst this
              exact h2
          have hmulN : ∀ z : Int, CMul sg z := fun z => .inl (by rcases hsg with rfl | rfl <;> decide)
          have hsz : a * EE + b + 1 ≤ 243 := by
            have h1 : (a + 1) * EE ≤ 3 ^ m * EE := Nat.mul_le_mul_right _ (by omega)
            have h2 : (a + 1) * EE = a * EE + EE := Nat.succ_mul a EE
            omega
          have mv : v ∈ ends := List.mem_of_getElem? hv
          -- the store
          have put : ∀ (D : Ends), (∀ ks2 t3 H17, (v.1, ks2) ∈ ends → Same H H17 → KD H16 H17 → H17 f = some (.frz of (dN P w EQ f erows)) → H17 d = some (.frz od (dN P w EQ d rows)) → H17 e = some (dN P w EQ e (putN brows (qset mm.1 (!sp) v.1.2) th (.ref t3))) →
              BestT H17 (putN brows (qset mm.1 (!sp) v.1.2) th (.ref t3)) (mput bk (qset mm.1 (!sp) v.1.2) (mm.2.1 + v.1.1, mm.2.2 ++ ks2)) → D.nx [some (.ref sa), some (.ref wa), some (.int sg), some (.ref d), some (.int (eV sp)), some (.int (m : Nat)), some (.int (m' : Nat)), some (.ref ra), some (.ref e), some (.ref row.2.1), some (.int mm.2.1), some (.ref l2), some (.ref f), some (.int v.1.1), some (.int v.1.2), some (.ref th), none] H17) →
              sNPut P w EQ (tVar 8) (tVar 15) (tTup (tCons (tOp (rI0 fun i j => V.int (i + j)) (tVar 10) (tVar 13)) (tCons (tOp rCat (tVar 11) (tNGet P w EQ (tVar 12) (tTup (tCons (tVar 13) (tCons (tVar 14) tNil))))) tNil))) D
                [some (.ref sa), some (.ref wa), some (.int sg), some (.ref d), some (.int (eV sp)), some (.int (m : Nat)), some (.int (m' : Nat)), some (.ref ra), some (.ref e), some (.ref row.2.1), some (.int mm.2.1), some (.ref l2), some (.ref f), some (.int v.1.1), some (.int v.1.2), some (.ref th), none] H16 := by
            intro D hD
            refine ⟨_, rfl, _, rfl, _, _, rfl, rfl, _, rfl, _, rfl, _, rfl, _, rfl, (by show 2 ≤ sizeLine; decide), fun kt hkt => ?_⟩
            have k17 := KD.new hkt (o := .tup [.int v.1.1, .int v.1.2])
            have hkt17 : (upd H16 kt (.tup [.int v.1.1, .int v.1.2])) kt = some (.tup [.int v.1.1, .int v.1.2]) := upd_same
            have s17 := same_new s16 hkt (o := .tup [.int v.1.1, .int v.1.2])
            have hf17 := upd_new hkt hf16 (o := .tup [.int v.1.1, .int v.1.2])
            have hd17 := upd_new hkt hd16 (o := .tup [.int v.1.1, .int v.1.2])
            have he17 := upd_new hkt he16 (o := .tup [.int v.1.1, .int v.1.2])
            generalize upd H16 kt (.tup [.int v.1.1, .int v.1.2]) = H17 at k17 hkt17 s17 hf17 hd17 he17
            have kM17 : KD HM H17 := k14.trans (k16.trans k17)
            have erel17 := erel13.mono fun _ _ q => LsV.kd q kM17
            have ekey17 : KeysAt H17 EQ erows := (ekey13.mono fun _ _ q => kM17.t _ _ q).nk (H := H17) fun _ _ q => nkQ q
            rcases erel17.val v.1 with ⟨f1, f2⟩ | ⟨vv, ks2, f1, f2, lv, rfl, hlv⟩
            · exact absurd (List.mem_map.mpr ⟨v, mv, rfl⟩) f2
            have hl2' : H17 l2 = some (.lst (mm.2.2.map V.int)) := (k13.trans kM17).l _ _ hl2
            have len1 : mm.2.2.length = m := (best.sound _ mk).1.1
            have len2 : ks2.length = m' - m := by
              have := (ends_of.sound _ f2).1.1
              rw [ltw] at this
              exact this
            refine ⟨f, kt, v.1, erows, _, rfl, rfl, .inr ⟨of, hf17⟩, ekey17, nkQ hkt17, f1, l2, lv, _, _, rfl, rfl, hl2', hlv, by rw [List.length_map, List.length_map, len1, len2]; exact Nat.le_of_lt (small1000 (by omega)), fun l3 hl3 => ⟨(by show 2 ≤ sizeLine; decide), fun t3 ht3 => ?_⟩⟩
            have k18 := (KD.new hl3 (o := .lst (mm.2.2.map V.int ++ ks2.map V.int))).trans (KD.new ht3 (o := .tup [.int (mm.2.1 + v.1.1), .ref l3]))
            have s18 := same_new (same_new s17 hl3 (o := .lst (mm.2.2.map V.int ++ ks2.map V.int))) ht3 (o := .tup [.int (mm.2.1 + v.1.1), .ref l3])
            have hf18 := upd_new ht3 (upd_new hl3 hf17 (o := .lst (mm.2.2.map V.int ++ ks2.map V.int))) (o := .tup [.int (mm.2.1 + v.1.1), .ref l3])
            have hd18 := upd_new ht3 (upd_new hl3 hd17 (o := .lst (mm.2.2.map V.int ++ ks2.map V.int))) (o := .tup [.int (mm.2.1 + v.1.1), .ref l3])
            have he18 := upd_new ht3 (upd_new hl3 he17 (o := .lst (mm.2.2.map V.int ++ ks2.map V.int))) (o := .tup [.int (mm.2.1 + v.1.1), .ref l3])
            have hb18 : BV (upd (upd H17 l3 (.lst (mm.2.2.map V.int ++ ks2.map V.int))) t3 (.tup [.int (mm.2.1 + v.1.1), .ref l3])) (.ref t3) (mm.2.1 + v.1.1, mm.2.2 ++ ks2) :=
              ⟨t3, l3, rfl, upd_same, by rw [List.map_append]; exact upd_new ht3 upd_same⟩
            generalize upd (upd H17 l3 (.lst (mm.2.2.map V.int ++ ks2.map V.int))) t3 (.tup [.int (mm.2.1 + v.1.1), .ref l3]) = H18 at k18 s18 hf18 hd18 he18 hb18
            have k168 := k17.trans k18
            have btab18 := btab16.kd k168
            have hth18 : H18 th = some (.tup [.int (qset mm.1 (!sp) v.1.2).1, .int (qset mm.1 (!sp) v.1.2).2]) := k168.t _ _ hth16
            refine ⟨_, rfl, _, rfl, e, th, qset mm.1 (!sp) v.1.2, brows, rfl, rfl, he18, btab18.at_, nkQ hth18, by rw [btab18.rel.length]; exact small1000 (by omega), ?_⟩
            have kP : KD H18 (upd H18 e (dN P w EQ e (putN brows (qset mm.1 (!sp) v.1.2) th (.ref t3)))) := KD.ext he18
            exact hD ks2 t3 _ f2 (same_put s18 heH) (k168.trans kP) (by rw [upd_ne nfe]; exact hf18) (by rw [upd_ne ned.symm]; exact hd18) upd_same
              ⟨(btab18.rel.mono fun _ _ q => q.kd kP).put _ th (hb18.kd kP), (btab18.keys.mono fun _ _ q => kP.t _ _ q).put _ (kP.t _ _ hth18), mput_nodup btab18.nd _ _⟩
          have done : (∀ b', (qset mm.1 (!sp) v.1.2, b') ∈ bk → sg * (mm.2.1 + v.1.1) ≤ sg * b'.1) → ∀ ks2 t3 H17, (v.1, ks2) ∈ ends → Same H H17 → KD H16 H17 → H17 f = some (.frz of (dN P w EQ f erows)) → H17 d = some (.frz od (dN P w EQ d rows)) → H17 e = some (dN P w EQ e (putN brows (qset mm.1 (!sp) v.1.2) th (.ref t3))) →
              BestT H17 (putN brows (qset mm.1 (!sp) v.1.2) th (.ref t3)) (mput bk (qset mm.1 (!sp) v.1.2) (mm.2.1 + v.1.1, mm.2.2 ++ ks2)) →
              ∃ (brows : List ((Int × Int) × Addr × V)) (bk : List ((Int × Int) × (Int × List Int))) (u13 u14 u15 : Option V),
          ([some (.ref sa), some (.ref wa), some (.int sg), some (.ref d), some (.int (eV sp)), some (.int (m : Nat)), some (.int (m' : Nat)), some (.ref ra), some (.ref e), some (.ref row.2.1), some (.int mm.2.1), some (.ref l2), some (.ref f), some (.int v.1.1), some (.int v.1.2), some (.ref th), none] : L2.St) = [some (.ref sa), some (.ref wa), some (.int sg), some (.ref d), some (.int (eV sp)), some (.int (m : Nat)), some (.int (m' : Nat)), some (.ref ra), some (.ref e), some (.ref row.2.1), some (.int mm.2.1), some (.ref l2), some (.ref f), u13, u14, u15, none] ∧ Same H H17 ∧ KD HM H17 ∧ H17 f = some (.frz of (dN P w EQ f erows)) ∧ H17 d = some (.frz od (dN P w EQ d rows)) ∧ H17 e = some (dN P w EQ e brows) ∧
          BestT H17 brows bk ∧ StepB cfg sp ((ws.drop m).take (m' - m)) kvs bk ∧ (∀ x ∈ kvs.take a, ∃ ends, EndsOf (cfg.rule sp) ((ws.drop m).take (m' - m)) (qget x.1 !sp) ends ∧ ∀ v ∈ ends, HasB sg bk (qset x.1 (!sp) v.1.2) (x.2.1 + v.1.1)) ∧
          (∀ v ∈ ends.take (b + 1), HasB sg bk (qset mm.1 (!sp) v.1.2) (mm.2.1 + v.1.1)) ∧ bk.length ≤ a * EE + (b + 1) := by
            intro hbest ks2 t3 H17 f2 s17 k17 hf17 hd17 he17 t17
            refine ⟨_, _, _, _, _, rfl, s17, k14.trans (k16.trans k17), hf17, hd17, he17, t17, fun y hy => ?_, fun x hx => ?_, ls1 _ (fun v' hv' => hasB_put (bV v' hv') btab.nd hbest) ⟨_, mem_mput_self _ _ _, rfl, Int.le_refl _⟩, ?_⟩
            · rcases mem_mput hy with rfl | ⟨hy, _⟩
              · exact ⟨mm, mk, ends, ends_of, (v.1, ks2), f2, rfl⟩
              · exact bS y hy
            · obtain ⟨en, h1, h2⟩ := bC x hx
              exact ⟨en, h1, fun v' hv' => hasB_put (h2 v' hv') btab.nd hbest⟩
            · have := mput_length bk (qset mm.1 (!sp) v.1.2) (mm.2.1 + v.1.1, mm.2.2 ++ ks2)
              omega
          rcases btab16.rel.val (qset mm.1 (!sp) v.1.2) with ⟨e1, e2⟩ | ⟨bv, b', e1, e2, t4, l4, rfl, ht4, hl4⟩
          · rw [e1]
            exact iteT (iteT (put _ (done fun b' hb' => absurd (List.mem_map.mpr ⟨_, hb', rfl⟩) e2)))
          · rw [e1]
            refine iteF ?_
            refine ⟨_, rfl, _, rfl, _, rfl, _, _, rfl, rfl, _, _, rfl, rfl, hmulN _, _, rfl, _, rfl, _, rfl, e, th, qset mm.1 (!sp) v.1.2, brows, _, rfl, rfl, .inl he16, btab16.at_, nkQ hth16, e1, t4, _, 0, _, rfl, rfl, SqT.of ht4, atI_nat (j := 0) rfl, _, _, rfl, rfl, hmulN _, _, _, rfl, rfl, _, rfl, ?_⟩
            by_cases hlt : sg * (mm.2.1 + v.1.1) < sg * b'.1
            · refine iteD hlt (put _ (done fun b'' hb'' => ?_))
              rw [uniq btab.nd hb'' e2]
              omega
            · refine iteDn hlt ?_
              exact ⟨brows, bk, _, _, _, rfl, s16, k14.trans k16, hf16, hd16, he16, btab16, bS, bC, ls1 _ bV ⟨_, e2, rfl, by show sg * b'.1 ≤ sg * (mm.2.1 + v.1.1); omega⟩, by omega⟩
        · rintro σ H14 ⟨brows, bk, w13, w14, w15, rfl, s14, k14, hf14, hd14, he14, btab, bS, bC, bV, blen⟩
          refine ⟨hf14, ?_⟩
          have kU : KD H14 (upd H14 f (dN P w EQ f erows)) := KD.frz hf14
          rw [erel13.length] at blen
          rw [erel13.length, List.take_length] at bV
          refine ⟨brows, bk, _, _, _, _, _, _, _, rfl, same_put s14 hfH, k9.trans (k13.trans (k14.trans kU)), by rw [upd_ne nfd.symm]; exact hd14, by rw [upd_ne nfe.symm]; exact he14, btab.kd kU, bS, fun x hx => ?_, ?_⟩
          · rw [List.take_add_one, hm] at hx
            rcases List.mem_append.mp hx with z | z
            · exact bC x z
            · have : x = mm := by simpa using z
              subst this
              exact ⟨ends, ends_of, bV⟩
          · have h2 : (a + 1) * EE = a * EE + EE := Nat.succ_mul a EE
            omega
      · rintro σ H9 ⟨brows, bk, v9, v10, v11, v12, v13, v14, v15, rfl, s9, k9, hd9, he9, btab, bS, bC, blen⟩
        refine ⟨hd9, ?_⟩
        have kU : KD H9 (upd H9 d (dN P w EQ d rows)) := KD.frz hd9
        rw [tab8.rel.length] at blen
        rw [tab8.rel.length, List.take_length] at bC
        refine ⟨_, rfl, e, brows, bk, _, _, _, _, _, _, _, _, _, _, _, _, rfl, same_put s9 hd, k8.trans (k9.trans kU), heH, by rw [upd_ne ned]; exact he9, btab.kd kU, ?_, ?_⟩
        · rw [st2]
          exact LW.best_step2 isT best bS bC
        · rw [st2, ← hEE]
          exact Nat.le_trans blen (Nat.mul_le_mul_right _ hlen)
    · clear tab3 hd3 s3 hS4
      rintro σ H5 ⟨d, rows, kvs, u4, u5, u6, u7, u8, u9, u10, u11, u12, u13, u14, u15, rfl, s5, k5, hd, hd5, tab, best, hlen⟩
      have el : (as.map V.ref).length = ts.length := by rw [List.length_map, hAs.len]
      rw [el, tpE] at best
      have hmulN : ∀ z : Int, CMul sg z := fun z => .inl (by rcases hsg with rfl | rfl <;> decide)
      refine ⟨d, _, hd5, True.intro, fun od => ?_⟩
      have hd8 : (upd H5 d (.frz od (dN P w EQ d rows))) d = some (.frz od (dN P w EQ d rows)) := upd_same
      have tab8 : BestT (upd H5 d (.frz od (dN P w EQ d rows))) rows kvs := tab.kd (KD.ext hd5)
      have s8 : Same H (upd H5 d (.frz od (dN P w EQ d rows))) := same_put s5 hd
      generalize upd H5 d (.frz od (dN P w EQ d rows)) = HL at hd8 tab8 s8
      refine ⟨_, rfl, d, od, rows, rfl, hd8, for_it walk_keysN (fun a σ H' => ∃ (u9 : Option V) (v16 : V), σ = [some (.ref sa), some (.ref wa), some (.int sg), some (.ref d), u4, u5, u6, u7, u8, u9, u10, u11, u12, u13, u14, u15, some v16] ∧ H' = HL ∧
        ((a = 0 ∧ v16 = .non) ∨ ∃ x ∈ kvs, (∀ y ∈ kvs.take a, sg * x.2.1 ≤ sg * y.2.1) ∧ BV HL v16 x.2)) ⟨_, _, rfl, rfl, .inl ⟨rfl, rfl⟩⟩ (fun a σ H' _ ⟨_, _, _, z, _⟩ => by rw [z]; exact hd8) ?_ ?_⟩
      · rintro a x σ H9 H10 ha ⟨v9, v16, rfl, rfl, st⟩ ⟨rfl, row, hrow, rfl⟩
        obtain ⟨mm, hm, em, vm⟩ := tab8.rel.at_ hrow
        have hqa : H10 row.2.1 = some (.tup [.int mm.1.1, .int mm.1.2]) := by
          rw [← em]
          exact tab8.keys row (List.mem_of_getElem? hrow)
        have mk : mm ∈ kvs := List.mem_of_getElem? hm
        obtain ⟨v, ev, t2, l2, rfl, ht2, hl2⟩ := tab8.val mk
        refine ⟨_, rfl, rfl, _, rfl, ?_⟩
        have ext1 : ∀ z : (Int × Int) × (Int × List Int), (∀ y ∈ kvs.take a, sg * z.2.1 ≤ sg * y.2.1) → sg * z.2.1 ≤ sg * mm.2.1 → ∀ y ∈ kvs.take (a + 1), sg * z.2.1 ≤ sg * y.2.1 := by
          intro z h1 h2 y hy
          rw [List.take_add_one, hm] at hy
          rcases List.mem_append.mp hy with q | q
          · exact h1 y q
          · have : y = mm := by simpa using q
            subst this
            exact h2
        rcases st with ⟨rfl, rfl⟩ | ⟨x, hx, hmin, tb, lb, rfl, htb, hlb⟩
        · refine iteD rfl (iteT ⟨_, rfl, _, rfl, d, row.2.1, mm.1, rows, _, rfl, rfl, .inr ⟨od, hd8⟩, tab8.at_, nkQ hqa, ev, ?_⟩)
          exact ⟨_, _, rfl, rfl, .inr ⟨mm, mk, ext1 mm (fun y hy => by simp at hy) (Int.le_refl _), t2, l2, rfl, ht2, hl2⟩⟩
        · refine iteDn (fun z => by cases z) ⟨_, rfl, _, rfl, _, rfl, d, row.2.1, mm.1, rows, _, rfl, rfl, .inr ⟨od, hd8⟩, tab8.at_, nkQ hqa, ev, t2, _, 0, _, rfl, rfl, SqT.of ht2, atI_nat (j := 0) rfl, _, _, rfl, rfl, hmulN _, _, rfl, _, rfl, tb, _, 0, _, rfl, rfl, SqT.of htb, atI_nat (j := 0) rfl, _, _, rfl, rfl, hmulN _, _, _, rfl, rfl, _, rfl, ?_⟩
          by_cases hlt : sg * mm.2.1 < sg * x.2.1
          · refine iteD hlt ⟨_, rfl, _, rfl, d, row.2.1, mm.1, rows, _, rfl, rfl, .inr ⟨od, hd8⟩, tab8.at_, nkQ hqa, ev, ?_⟩
            exact ⟨_, _, rfl, rfl, .inr ⟨mm, mk, ext1 mm (fun y hy => Int.le_trans (Int.le_of_lt hlt) (hmin y hy)) (Int.le_refl _), t2, l2, rfl, ht2, hl2⟩⟩
          · refine iteDn hlt ?_
            exact ⟨_, _, rfl, rfl, .inr ⟨x, hx, ext1 x hmin (by omega), tb, lb, rfl, htb, hlb⟩⟩
      · rintro σ H9 ⟨v9, v16, rfl, rfl, st⟩
        refine ⟨hd8, ?_⟩
        have kU : KD H9 (upd H9 d (dN P w EQ d rows)) := KD.frz hd8
        rcases st with ⟨z, _⟩ | ⟨x, hx, hmin, hb⟩
        · exfalso
          obtain ⟨ks, h1, h2⟩ := LW.total_ex (cfg := cfg) (sg := sg) (ws := ws)
          obtain ⟨y, hy, _⟩ := best.all ks (LW.planP_iff.mp h1)
          have := tab8.rel.length
          rw [z] at this
          have : kvs = [] := List.length_eq_zero_iff.mp this.symm
          rw [this] at hy
          cases hy
        · rw [tab8.rel.length, List.take_length] at hmin
          obtain ⟨p1, p2, p3⟩ := LW.best_final hsg best hx hmin
          obtain ⟨t, l, rfl, ht, hl⟩ := hb
          refine ⟨_, rfl, q t _ x.2.2 (same_put s8 hd) ⟨t, l, rfl, ?_, kU.l _ _ hl⟩ p1 (p2.trans p3)⟩
          have := kU.t _ _ ht
          rw [p3] at this
          exact this
end
end Lw

namespace Lw
open PySem PySem.Spec PyProof.Rows L2
open LW (Hold Mode Pol Cfg Write Side Scene Parts Way Rule total best0 PlanP)
section
variable {P : Program} {w : World} {K : PySem.W.Frag} {mg : Str → Option Value} {base : Heap}
def spEnd (K : PySem.W.Frag) (sg : Int) : Sp := fun vs H Q _ => ∃ (sa wa : Addr) (cfg : Cfg) (ws : List Write), vs = [.ref sa, .ref wa] ∧ SetAt K H sa cfg ∧ CfgOk cfg ∧ ConvAt H wa ws ∧ ws.length ≤ 5 ∧ (∀ wr ∈ ws, WrOk wr) ∧
  ∀ (t : Addr) (H' : Hp) (ks : List Int), Same H H' → BV H' (.ref t) (best0 cfg sg ws, ks) → PlanP ws ws.length ks → total cfg ws ks = best0 cfg sg ws → Q (.ref t) H'
theorem c_least (T : Txt K mg) : Con P w K mg base 6 (He.ga K "least") ["setting", "conversation"] [] (spEnd K 1) := by
  refine con_of T.d_least rfl rfl sc_least (fun _ _ _ _ _ _ us hl => match us, hl with | [_, _], _ => rfl) (fun vs H Q E h => ?_) (fun cdv A outer s H vs Q E hr h => ?_)
  · obtain ⟨sa, wa, cfg, ws, rfl, _⟩ := h
    rfl
  · obtain ⟨sa, wa, cfg, ws, rfl, hS, ok, hW, h5, wok, q⟩ := h
    refine ⟨_, pss_cons (ps_expr (call_c (c_check T) (hr.mono (by decide)) T.g_check (pa_cons (pv 1) pa_nil)))
      (pss_one (ps_ret (call_c (c_best_orders T) hr T.g_best_orders (pa_cons (pv 0) (pa_cons (pv 1) (pa_cons pe_int pa_nil)))))), ?_⟩
    refine ⟨_, rfl, wa, ws, rfl, hW, Nat.le_trans h5 (by decide), wok, fun H1 s1 => ?_⟩
    exact ⟨_, rfl, _, rfl, sa, wa, cfg, ws, 1, rfl, hS.mono s1, ok, hW.mono s1, h5, .inl rfl, fun t H2 ks s2 hb p1 p2 => q t H2 ks (s1.trans s2) hb p1 p2⟩
theorem c_most (T : Txt K mg) : Con P w K mg base 6 (He.ga K "most") ["setting", "conversation"] [] (spEnd K (-1)) := by
  refine con_of T.d_most rfl rfl sc_most (fun _ _ _ _ _ _ us hl => match us, hl with | [_, _], _ => rfl) (fun vs H Q E h => ?_) (fun cdv A outer s H vs Q E hr h => ?_)
  · obtain ⟨sa, wa, cfg, ws, rfl, _⟩ := h
    rfl
  · obtain ⟨sa, wa, cfg, ws, rfl, hS, ok, hW, h5, wok, q⟩ := h
    refine ⟨_, pss_cons (ps_expr (call_c (c_check T) (hr.mono (by decide)) T.g_check (pa_cons (pv 1) pa_nil)))
      (pss_one (ps_ret (call_c (c_best_orders T) hr T.g_best_orders (pa_cons (pv 0) (pa_cons (pv 1) (pa_cons (pe_un un_neg pe_int) pa_nil)))))), ?_⟩
    refine ⟨_, rfl, wa, ws, rfl, hW, Nat.le_trans h5 (by decide), wok, fun H1 s1 => ?_⟩
    exact ⟨_, rfl, _, rfl, _, rfl, sa, wa, cfg, ws, -1, rfl, hS.mono s1, ok, hW.mono s1, h5, .inr rfl, fun t H2 ks s2 hb p1 p2 => q t H2 ks (s1.trans s2) hb p1 p2⟩
end
end Lw

/-! What the law draws: sizes, lengths; what is known of each scene of it. -/
namespace Lw
open PySem PySem.Spec PyProof.Rows L2
open LW (Hold Mode Pol Cfg Write Side Scene Parts Way Rule J Ev possible after spk scene0 wt mu fut WsOk)
structure Fit (cfg : Cfg) (ws : List Write) : Prop where
  cf : CfgOk cfg
  s5 : cfg.size ≤ 5
  n5 : ws.length ≤ 5
  len : ∀ wr ∈ ws, 1 ≤ wr.len ∧ wr.len ≤ 30
section
variable {cfg : Cfg} {ws : List Write} {sc : Scene}
theorem Fit.ok (h : Fit cfg ws) : cfg.Ok := ⟨h.cf.s1, fun e => (h.cf.p e).e0, fun e => (h.cf.p e).q0⟩
theorem Fit.wok (h : Fit cfg ws) : WsOk ws := ⟨fun wr hw => (h.len wr hw).1⟩
theorem Fit.wr (h : Fit cfg ws) : ∀ wr ∈ ws, WrOk wr := fun wr hw => ⟨(h.len wr hw).1, Int.le_trans (h.len wr hw).2 (by decide)⟩
theorem fut_le (hz : 1 ≤ cfg.size) : ∀ {ws : List Write}, (∀ wr ∈ ws, 1 ≤ wr.len ∧ wr.len ≤ 30) → fut cfg.size ws ≤ 31 * ws.length
  | [], _ => Int.le_refl _
  | wr :: ws, h => by
    have a := h wr List.mem_cons_self
    have b := fut_le hz (ws := ws) fun x hx => h x (List.mem_cons_of_mem _ hx)
    have c : wr.len / cfg.size ≤ wr.len := by
      have h1 := Int.emod_add_mul_ediv wr.len cfg.size
      have h2 := Int.emod_nonneg wr.len (show cfg.size ≠ 0 by omega)
      have h3 : 0 ≤ wr.len / cfg.size := Int.ediv_nonneg (by omega) (by omega)
      have h4 : 1 * (wr.len / cfg.size) ≤ cfg.size * (wr.len / cfg.size) := Int.mul_le_mul_of_nonneg_right hz h3
      omega
    show (wr.len / cfg.size + 1) + fut cfg.size ws ≤ 31 * ((ws.length + 1 : Nat) : Int)
    omega
structure Scn (cfg : Cfg) (ws : List Write) (sc : Scene) : Prop where
  j : J cfg ws sc
  mu : mu cfg ws sc ≤ 1000
theorem scn0 (h : Fit cfg ws) : Scn cfg ws scene0 := by
  refine ⟨LW.j0 h.ok, ?_⟩
  rw [LW.mu0 h.ok]
  have a := fut_le h.cf.s1 h.len
  have b := h.n5
  omega
theorem Scn.after (h : Fit cfg ws) (s : Scn cfg ws sc) {ev : Ev} (he : ev ∈ possible ws sc) : Scn cfg ws (after cfg ws sc ev) := by
  obtain ⟨a, b, _⟩ := LW.search_step (sg := 1) (Or.inl rfl) h.ok h.wok s.j he
  exact ⟨a, by have := s.mu; omega⟩
theorem wt_len : ∀ A : Way, (A.length : Int) ≤ wt A
  | [] => Int.le_refl _
  | x :: r => by
    have := wt_len r
    show ((r.length + 1 : Nat) : Int) ≤ (if x.1 = 0 then 1 else 2) + wt r
    split <;> omega
theorem Scn.way (h : Fit cfg ws) (s : Scn cfg ws sc) (e : Bool) : (sc.way e).length ≤ 1000 := by
  have m := s.mu
  unfold LW.mu LW.mC at m
  have a := LW.fut_nn h.cf.s1 (ws := ws.drop sc.made) fun wr hw => (h.len wr (List.mem_of_mem_drop hw)).1
  have le := s.j.le
  have w1 := wt_len (sc.way (spk ws sc.made))
  have w2 := wt_len (sc.way !(spk ws sc.made))
  have p := LW.p5_le (sc.side (spk ws sc.made)).waiting
  have b : ∀ k, 0 ≤ LW.b2 k := fun k => by cases k <;> decide
  have b' := b (LW.absP cfg.size (cfg.pol (spk ws sc.made)).hold (cfg.pol !(spk ws sc.made)).every (cfg.pol !(spk ws sc.made)).quick (sc.side (spk ws sc.made)) (sc.side !(spk ws sc.made)) (sc.way (spk ws sc.made)) (sc.way !(spk ws sc.made))).stuck
  by_cases c : e = spk ws sc.made
  · subst c
    omega
  · have c : e = !spk ws sc.made := by
      revert c
      cases e <;> cases spk ws sc.made <;> simp
    subst c
    omega
theorem Scn.waits (h : Fit cfg ws) (s : Scn cfg ws sc) (e : Bool) : 0 ≤ (sc.side e).waiting ∧ (sc.side e).waiting ≤ 5 := by
  obtain ⟨b, C, _⟩ := s.j.core
  have h5 := h.s5
  by_cases c : e = spk ws sc.made
  · subst c
    have := C.w0
    have := C.w1
    omega
  · have c : e = !spk ws sc.made := by
      revert c
      cases e <;> cases spk ws sc.made <;> simp
    subst c
    have := C.twait
    omega
end
def evS : Ev → Str
  | .write => "write"
  | .arr false => "arrive 0"
  | .arr true => "arrive 1"
  | .timer => "timer"
theorem evS_inj {a b : Ev} (h : evS a = evS b) : a = b := by
  rcases a with _ | (_ | _) | _ <;> rcases b with _ | (_ | _) | _ <;> first | rfl | exact absurd h (by decide +kernel)
end Lw

/-! How scenes, sides and drafts lie in the heap; a store to an attribute as a target. -/
namespace Lw
open PySem PySem.Spec PyProof.Rows L2
open LW (Hold Mode Pol Cfg Write Side Scene Parts Way Rule)
section
variable {X : Cx} {o : Expr} {f : Str} {pos : Pos} {ta : TE}
/-- o.f = .. as a target -/
def gFld (K : PySem.W.Frag) (ta : TE) (f : Str) : TG := fun v σ H Q => ta σ H fun x H1 => ∃ a C dx fs, x = .ref a ∧ H1 a = some (.ins C dx fs) ∧ Cls K C ∧ NoAttr K C f ∧ fs.length < 1000 ∧ Q σ (upd H1 a (.ins C dx (putF f v fs)))
theorem pg_fld (ha : PE X o ta) : PG X (.Attribute o f pos) (gFld X.K ta f) := by
  refine ⟨fun pins s σ H v u Q I r h => ?_⟩
  rw [assign_Attribute]
  refine wpAny_bind (wpAny_holding (thn (ha.run pins s σ H _ I h) fun ov s1 ⟨x, H1, I1, rx, a, C, dx, fs, ex, ea, c, n, l, q⟩ => ?_))
  subst ex
  obtain rfl : ov = Value.ref a := rx
  refine wpAny_bind (wpAny_standAt (wpAny_bind (wpAny_holding (setattr_ok I1 ea c n l r fun s2 I2 => ?_))))
  exact wpAny_release ⟨σ, _, I2, q⟩
end
/-! ### the packed scene -/
def SideT (H : Hp) (a : Addr) (S : Side) : Prop := H a = some (.tup [.int S.waiting, .bl S.corked, .int S.out, .int S.covered, .int S.heard, .int S.fulls, .int S.arrived, .int S.mark])
def PairT (H : Hp) (a : Addr) (x : Int × Int) : Prop := H a = some (.tup [.int x.1, .int x.2])
def WayT (H : Hp) (a : Addr) (W : Way) : Prop := ∃ as : List Addr, H a = some (.tup (as.map V.ref)) ∧ All2 (PairT H) as W
structure SceneIn (H : Hp) (t : Addr) (sc : Scene) (sa wa : Addr) (s w : Bool → Addr) : Prop where
  top : H t = some (.tup [.int (sc.made : Nat), .int sc.stalls, .ref sa, .ref wa])
  sides : H sa = some (.tup [.ref (s false), .ref (s true)])
  ways : H wa = some (.tup [.ref (w false), .ref (w true)])
  side : ∀ e, SideT H (s e) (sc.side e)
  way : ∀ e, WayT H (w e) (sc.way e)
def SceneAt (H : Hp) (t : Addr) (sc : Scene) : Prop := ∃ sa wa s w, SceneIn H t sc sa wa s w
section
variable {H H' : Hp}
/-- what keeps the tuples -/
structure KT2 (H H' : Hp) : Prop where
  t : ∀ a xs, H a = some (.tup xs) → H' a = some (.tup xs)
theorem KT2.of (s : Same H H') : KT2 H H' := ⟨fun _ _ h => s _ _ h⟩
theorem KT2.trans {H1 H2 H3 : Hp} (a : KT2 H1 H2) (b : KT2 H2 H3) : KT2 H1 H3 := ⟨fun _ _ h => b.t _ _ (a.t _ _ h)⟩
theorem KT2.put {d : Addr} {o u : HO} (h : H d = some u) (n : ∀ xs, u ≠ .tup xs) : KT2 H (upd H d o) := ⟨fun a xs q => by
  rw [upd_ne (fun z => by rw [z, h] at q; exact n _ (Option.some.inj q))]
  exact q⟩
theorem SideT.kt {a : Addr} {S : Side} (h : SideT H a S) (k : KT2 H H') : SideT H' a S := k.t _ _ h
theorem PairT.kt {a : Addr} {x : Int × Int} (h : PairT H a x) (k : KT2 H H') : PairT H' a x := k.t _ _ h
theorem WayT.kt {a : Addr} {W : Way} (h : WayT H a W) (k : KT2 H H') : WayT H' a W := by
  obtain ⟨as, h1, h2⟩ := h
  exact ⟨as, k.t _ _ h1, h2.mono fun _ _ q => q.kt k⟩
theorem SceneIn.kt {t : Addr} {sc : Scene} {sa wa : Addr} {s w : Bool → Addr} (h : SceneIn H t sc sa wa s w) (k : KT2 H H') : SceneIn H' t sc sa wa s w :=
  ⟨k.t _ _ h.top, k.t _ _ h.sides, k.t _ _ h.ways, fun e => (h.side e).kt k, fun e => (h.way e).kt k⟩
theorem SceneAt.kt {t : Addr} {sc : Scene} (h : SceneAt H t sc) (k : KT2 H H') : SceneAt H' t sc := by
  obtain ⟨sa, wa, s, w, h⟩ := h
  exact ⟨sa, wa, s, w, h.kt k⟩
theorem SceneAt.mono {t : Addr} {sc : Scene} (h : SceneAt H t sc) (k : Same H H') : SceneAt H' t sc := h.kt (KT2.of k)
end
/-- the pair at (false, true), by an endpoint -/
theorem at_e {f : Bool → Addr} (e : Bool) : atI [V.ref (f false), V.ref (f true)] (eV e) = some (.ref (f e)) := by
  cases e
  · exact atI_nat (j := 0) rfl
  · exact atI_nat (j := 1) rfl
/-! ### the draft -/
section
variable (K : PySem.W.Frag)
def SideI (H : Hp) (a : Addr) (S : Side) : Prop := ∃ dx, H a = some (.ins (He.ga K "Side") dx (f_Side S.waiting S.corked S.out S.covered S.heard S.fulls S.arrived S.mark))
def WayL (H : Hp) (a : Addr) (W : Way) : Prop := ∃ as : List Addr, H a = some (.lst (as.map V.ref)) ∧ All2 (PairT H) as W
/-- the draft of sc at d, all new over B; ip and vp: the sides' instances and the ways' lists -/
structure DraftAt (B H : Hp) (d st l k : Addr) (ip vp : Bool → Addr) (sc : Scene) : Prop where
  same : Same B H
  ins : ∃ dx, H d = some (.ins (He.ga K "Draft") dx (f_Draft st (sc.made : Nat) sc.stalls l k))
  sides : H l = some (.lst [.ref (ip false), .ref (ip true)])
  ways : H k = some (.lst [.ref (vp false), .ref (vp true)])
  side : ∀ e, SideI K H (ip e) (sc.side e)
  way : ∀ e, WayL H (vp e) (sc.way e)
  fd : B d = none
  fi : ∀ e, B (ip e) = none
  fv : ∀ e, B (vp e) = none
  ni : ip false ≠ ip true
  nv : vp false ≠ vp true
  nd : ∀ e, d ≠ ip e
  nl : ∀ e, l ≠ vp e
  nk : ∀ e, k ≠ vp e
end
section
variable {K : PySem.W.Frag} {B H : Hp} {d st l k : Addr} {ip vp : Bool → Addr} {sc : Scene}
theorem ne2 {f : Bool → Addr} (h : f false ≠ f true) {a b : Bool} (n : a ≠ b) : f a ≠ f b := by
  cases a <;> cases b
  · exact absurd rfl n
  · exact h
  · exact h.symm
  · exact absurd rfl n
theorem PairT.put {a : Addr} {x : Int × Int} {b : Addr} {o u : HO} (h : PairT H a x) (e : H b = some u) (n : ∀ xs, u ≠ .tup xs) : PairT (upd H b o) a x := h.kt (KT2.put e n)
/-- a new thing -/
theorem DraftAt.new (D : DraftAt K B H d st l k ip vp sc) {p : Addr} {o : HO} (h : H p = none) : DraftAt K B (upd H p o) d st l k ip vp sc := by
  obtain ⟨dx, hd⟩ := D.ins
  refine { D with same := same_new D.same h, ins := ⟨dx, upd_new h hd⟩, sides := upd_new h D.sides, ways := upd_new h D.ways, side := fun e => ?_, way := fun e => ?_ }
  · obtain ⟨dx, q⟩ := D.side e
    exact ⟨dx, upd_new h q⟩
  · obtain ⟨as, q1, q2⟩ := D.way e
    exact ⟨as, upd_new h q1, q2.mono fun _ _ q => upd_new h q⟩
/-- a side is stored -/
theorem DraftAt.setSide (D : DraftAt K B H d st l k ip vp sc) (e : Bool) {dx : Addr} {S : Side} (h : ∃ fs, H (ip e) = some (.ins (He.ga K "Side") dx fs)) :
    DraftAt K B (upd H (ip e) (.ins (He.ga K "Side") dx (f_Side S.waiting S.corked S.out S.covered S.heard S.fulls S.arrived S.mark))) d st l k ip vp (sc.put e S (sc.side !e) (sc.way e) (sc.way !e)) := by
  obtain ⟨fs, hf⟩ := h
  obtain ⟨dd, hd⟩ := D.ins
  have nl : ∀ c xs, H c = some (.lst xs) → c ≠ ip e := fun c xs q z => by rw [z, hf] at q; cases q
  refine { D with same := same_put D.same (D.fi e), ins := ⟨dd, ?_⟩, sides := ?_, ways := ?_, side := fun b => ?_, way := fun b => ?_ }
  · rw [upd_ne (D.nd e), LW.put_made, LW.put_stalls]
    exact hd
  · rw [upd_ne (nl _ _ D.sides)]
    exact D.sides
  · rw [upd_ne (nl _ _ D.ways)]
    exact D.ways
  · by_cases c : b = e
    · subst c
      rw [LW.put_side]
      exact ⟨dx, upd_same⟩
    · obtain ⟨dy, q⟩ := D.side b
      have eb : b = !e := by cases b <;> cases e <;> first | rfl | exact absurd rfl c
      subst eb
      rw [LW.put_side']
      exact ⟨dy, by rw [upd_ne (ne2 D.ni c)]; exact q⟩
  · obtain ⟨as, q1, q2⟩ := D.way b
    have ew : (sc.put e S (sc.side !e) (sc.way e) (sc.way !e)).way b = sc.way b := by
      by_cases c : b = e
      · subst c
        exact LW.put_way
      · have eb : b = !e := by cases b <;> cases e <;> first | rfl | exact absurd rfl c
        subst eb
        exact LW.put_way'
    rw [ew]
    exact ⟨as, by rw [upd_ne (nl _ _ q1)]; exact q1, q2.mono fun _ _ q => q.put hf (fun _ z => nomatch z)⟩
/-- a way is stored -/
theorem DraftAt.setWay (D : DraftAt K B H d st l k ip vp sc) (e : Bool) {as : List Addr} {W : Way} (hA : All2 (PairT H) as W) :
    DraftAt K B (upd H (vp e) (.lst (as.map V.ref))) d st l k ip vp (sc.put e (sc.side e) (sc.side !e) W (sc.way !e)) := by
  obtain ⟨as0, hf, _⟩ := D.way e
  obtain ⟨dd, hd⟩ := D.ins
  have ni : ∀ c C dx fs, H c = some (.ins C dx fs) → c ≠ vp e := fun c C dx fs q z => by rw [z, hf] at q; cases q
  refine { D with same := same_put D.same (D.fv e), ins := ⟨dd, ?_⟩, sides := ?_, ways := ?_, side := fun b => ?_, way := fun b => ?_ }
  · rw [upd_ne (ni _ _ _ _ hd), LW.put_made, LW.put_stalls]
    exact hd
  · rw [upd_ne (D.nl e)]
    exact D.sides
  · rw [upd_ne (D.nk e)]
    exact D.ways
  · obtain ⟨dx, q⟩ := D.side b
    have ew : (sc.put e (sc.side e) (sc.side !e) W (sc.way !e)).side b = sc.side b := by
      by_cases c : b = e
      · subst c
        exact LW.put_side
      · have eb : b = !e := by cases b <;> cases e <;> first | rfl | exact absurd rfl c
        subst eb
        exact LW.put_side'
    rw [ew]
    exact ⟨dx, by rw [upd_ne (ni _ _ _ _ q)]; exact q⟩
  · by_cases c : b = e
    · subst c
      rw [LW.put_way]
      exact ⟨as, upd_same, hA.mono fun _ _ q => q.put hf (fun _ z => nomatch z)⟩
    · obtain ⟨as1, q1, q2⟩ := D.way b
      have eb : b = !e := by cases b <;> cases e <;> first | rfl | exact absurd rfl c
      subst eb
      rw [LW.put_way']
      exact ⟨as1, by rw [upd_ne (ne2 D.nv c)]; exact q1, q2.mono fun _ _ q => q.put hf (fun _ z => nomatch z)⟩
/-- the numbers are stored -/
theorem DraftAt.setNum (D : DraftAt K B H d st l k ip vp sc) {dx : Addr} (made : Nat) (stalls : Int) :
    DraftAt K B (upd H d (.ins (He.ga K "Draft") dx (f_Draft st (made : Nat) stalls l k))) d st l k ip vp { sc with made := made, stalls := stalls } := by
  obtain ⟨dd, hd⟩ := D.ins
  have nl : ∀ c xs, H c = some (.lst xs) → c ≠ d := fun c xs q z => by rw [z, hd] at q; cases q
  refine { D with same := same_put D.same D.fd, ins := ⟨dx, upd_same⟩, sides := ?_, ways := ?_, side := fun b => ?_, way := fun b => ?_ }
  · rw [upd_ne (nl _ _ D.sides)]
    exact D.sides
  · rw [upd_ne (nl _ _ D.ways)]
    exact D.ways
  · obtain ⟨dy, q⟩ := D.side b
    have : ({ sc with made := made, stalls := stalls } : Scene).side b = sc.side b := by cases b <;> rfl
    rw [this]
    exact ⟨dy, by rw [upd_ne (D.nd b).symm]; exact q⟩
  · obtain ⟨as, q1, q2⟩ := D.way b
    have : ({ sc with made := made, stalls := stalls } : Scene).way b = sc.way b := by cases b <;> rfl
    rw [this]
    exact ⟨as, by rw [upd_ne (nl _ _ q1)]; exact q1, q2.mono fun _ _ q => q.put hd (fun _ z => nomatch z)⟩
end
end Lw

namespace Lw
open PySem PySem.Spec PyProof.Rows L2
open LW (Hold Mode Pol Cfg Write Side Scene Parts Way Rule)
/-- the attributes of a side -/
abbrev fS (S : Side) : List (Str × V) := f_Side S.waiting S.corked S.out S.covered S.heard S.fulls S.arrived S.mark
section
variable {P : Program} {w : World} {K : PySem.W.Frag} {mg : Str → Option Value} {base : Heap}
def spSideInit (K : PySem.W.Frag) : Sp := fun vs H Q _ => ∃ (x dx t : Addr) (S : Side), vs = [.ref x, .ref t] ∧ H x = some (.ins (He.ga K "Side") dx []) ∧ SideT H t S ∧ Q .non (upd H x (.ins (He.ga K "Side") dx (fS S)))
theorem c_Side_init (T : Txt K mg) : Con P w K mg base 1 (He.ma K (He.ga K "Side") "__init__") ["self", "values"] [] (spSideInit K) := by
  refine con_of T.d_Side_init rfl rfl sc_Side_init (fun _ _ _ _ _ _ us hl => match us, hl with | [_, _], _ => rfl) (fun vs H Q E h => ?_) (fun cdv A outer s H vs Q E hr h => ?_)
  · obtain ⟨x, dx, t, S, rfl, _⟩ := h
    rfl
  · obtain ⟨x, dx, t, S, rfl, hx, hS, q⟩ := h
    have hS : H t = some (.tup [.int S.waiting, .bl S.corked, .int S.out, .int S.covered, .int S.heard, .int S.fulls, .int S.arrived, .int S.mark]) := hS
    refine ⟨_, pss_one (ps_asg (pv 1) (pg_tup rfl (pgs_cons (pg_fld (pv 0)) (pgs_cons (pg_fld (pv 0)) (pgs_cons (pg_fld (pv 0)) (pgs_cons (pg_fld (pv 0)) (pgs_cons (pg_fld (pv 0)) (pgs_cons (pg_fld (pv 0)) (pgs_cons (pg_fld (pv 0)) (pgs_cons (pg_fld (pv 0)) pgs_nil)))))))))), ?_⟩
    refine ⟨_, rfl, t, _, rfl, SqT.of hS, rfl, ?_⟩
    refine ⟨_, _, rfl, _, rfl, x, _, dx, _, rfl, hx, T.c_Side, T.n_Side_waiting, by decide, ?_⟩
    refine ⟨_, _, rfl, _, rfl, x, _, dx, _, rfl, upd_same, T.c_Side, T.n_Side_corked, (by show 1 < 1000; decide), ?_⟩
    refine ⟨_, _, rfl, _, rfl, x, _, dx, _, rfl, upd_same, T.c_Side, T.n_Side_out, (by show 2 < 1000; decide), ?_⟩
    refine ⟨_, _, rfl, _, rfl, x, _, dx, _, rfl, upd_same, T.c_Side, T.n_Side_covered, (by show 3 < 1000; decide), ?_⟩
    refine ⟨_, _, rfl, _, rfl, x, _, dx, _, rfl, upd_same, T.c_Side, T.n_Side_heard, (by show 4 < 1000; decide), ?_⟩
    refine ⟨_, _, rfl, _, rfl, x, _, dx, _, rfl, upd_same, T.c_Side, T.n_Side_fulls, (by show 5 < 1000; decide), ?_⟩
    refine ⟨_, _, rfl, _, rfl, x, _, dx, _, rfl, upd_same, T.c_Side, T.n_Side_arrived, (by show 6 < 1000; decide), ?_⟩
    refine ⟨_, _, rfl, _, rfl, x, _, dx, _, rfl, upd_same, T.c_Side, T.n_Side_mark, (by show 7 < 1000; decide), ?_⟩
    refine ⟨rfl, ?_⟩
    rw [upd_upd, upd_upd, upd_upd, upd_upd, upd_upd, upd_upd, upd_upd, mk_Side]
    exact q
def spSidePacked (K : PySem.W.Frag) : Sp := fun vs H Q _ => ∃ (a : Addr) (S : Side), vs = [.ref a] ∧ SideI K H a S ∧ ∀ t, H t = none → Q (.ref t) (upd H t (.tup [.int S.waiting, .bl S.corked, .int S.out, .int S.covered, .int S.heard, .int S.fulls, .int S.arrived, .int S.mark]))
theorem c_Side_packed (T : Txt K mg) : Con P w K mg base 1 (He.ma K (He.ga K "Side") "packed") ["self"] [] (spSidePacked K) := by
  refine con_of T.d_Side_packed rfl rfl sc_Side_packed (fun _ _ _ _ _ _ us hl => match us, hl with | [_], _ => rfl) (fun vs H Q E h => ?_) (fun cdv A outer s H vs Q E hr h => ?_)
  · obtain ⟨a, S, rfl, _⟩ := h
    rfl
  · obtain ⟨a, S, rfl, ⟨dx, h1⟩, q⟩ := h
    refine ⟨_, pss_one (ps_ret (pe_tup (pa_cons (pe_fld (pv 0) rfl) (pa_cons (pe_fld (pv 0) rfl) (pa_cons (pe_fld (pv 0) rfl) (pa_cons (pe_fld (pv 0) rfl) (pa_cons (pe_fld (pv 0) rfl) (pa_cons (pe_fld (pv 0) rfl) (pa_cons (pe_fld (pv 0) rfl) (pa_cons (pe_fld (pv 0) rfl) pa_nil)))))))))), ?_⟩
    refine ⟨_, rfl, a, _, dx, _, _, rfl, h1, T.c_Side, T.n_Side_waiting, lk_Side_waiting, ?_⟩
    refine ⟨_, rfl, a, _, dx, _, _, rfl, h1, T.c_Side, T.n_Side_corked, lk_Side_corked, ?_⟩
    refine ⟨_, rfl, a, _, dx, _, _, rfl, h1, T.c_Side, T.n_Side_out, lk_Side_out, ?_⟩
    refine ⟨_, rfl, a, _, dx, _, _, rfl, h1, T.c_Side, T.n_Side_covered, lk_Side_covered, ?_⟩
    refine ⟨_, rfl, a, _, dx, _, _, rfl, h1, T.c_Side, T.n_Side_heard, lk_Side_heard, ?_⟩
    refine ⟨_, rfl, a, _, dx, _, _, rfl, h1, T.c_Side, T.n_Side_fulls, lk_Side_fulls, ?_⟩
    refine ⟨_, rfl, a, _, dx, _, _, rfl, h1, T.c_Side, T.n_Side_arrived, lk_Side_arrived, ?_⟩
    refine ⟨_, rfl, a, _, dx, _, _, rfl, h1, T.c_Side, T.n_Side_mark, lk_Side_mark, ?_⟩
    exact ⟨(by show 8 ≤ sizeLine; decide), fun t ht => q t ht⟩
def spPermits (K : PySem.W.Frag) : Sp := fun vs H Q _ => ∃ (a : Addr) (S : Side) (h : Hold), vs = [.ref a, .str (hV h)] ∧ SideI K H a S ∧ Q (.bl (S.permits h)) H
theorem c_Side_permits (T : Txt K mg) : Con P w K mg base 1 (He.ma K (He.ga K "Side") "permits") ["self", "hold"] [] (spPermits K) := by
  refine con_of T.d_Side_permits rfl rfl sc_Side_permits (fun _ _ _ _ _ _ us hl => match us, hl with | [_, _], _ => rfl) (fun vs H Q E h => ?_) (fun cdv A outer s H vs Q E hr h => ?_)
  · obtain ⟨a, S, h, rfl, _⟩ := h
    rfl
  · obtain ⟨a, S, h, rfl, ⟨dx, h1⟩, q⟩ := h
    refine ⟨_, pss_cons (ps_if (pt_cmpR op_eq (pv 1) pe_str (nomark _)) (pss_one (ps_ret (pe_cmpR op_ge (pe_fld (pv 0) rfl) (pe_fld (pv 0) rfl) (nomark _)))) pss_nil)
      (pss_one (ps_ret (pe_or (pe_cmpR op_eq (pv 1) pe_str (nomark _)) (pe_one (pe_cmpR op_eq (pe_fld (pv 0) rfl) (pe_fld (pv 0) rfl) (nomark _)))))), ?_⟩
    refine ⟨_, rfl, rfl, _, rfl, ?_⟩
    cases h with
    | part =>
      refine iteD rfl ⟨_, rfl, a, _, dx, _, _, rfl, h1, T.c_Side, T.n_Side_covered, lk_Side_covered, _, rfl, a, _, dx, _, _, rfl, h1, T.c_Side, T.n_Side_mark, lk_Side_mark, _, _, rfl, rfl, ?_⟩
      exact q
    | off =>
      refine iteDn (by decide +kernel) ⟨_, rfl, rfl, _, rfl, ?_⟩
      exact iteD rfl q
    | all =>
      refine iteDn (by decide +kernel) ⟨_, rfl, rfl, _, rfl, ?_⟩
      refine iteDn (by decide +kernel) ⟨_, rfl, a, _, dx, _, _, rfl, h1, T.c_Side, T.n_Side_covered, lk_Side_covered, _, rfl, a, _, dx, _, _, rfl, h1, T.c_Side, T.n_Side_out, lk_Side_out, rfl, ?_⟩
      have e : decide (V.int S.covered = V.int S.out) = S.permits .all := decide_eq_decide.mpr ⟨V.int.inj, congrArg V.int⟩
      rw [e]
      exact q
end
end Lw

namespace Lw
open PySem PySem.Spec PyProof.Rows L2
open LW (Hold Mode Pol Cfg Write Side Scene Parts Way Rule)
section
variable {H B : Hp} {y dy b : Addr} {o o1 o2 o3 : HO}
theorem made_keep (h1 : H y = none) (h2 : H dy = none) (n : dy ≠ y) (h : H b = some o) : upd (upd H dy o1) y o2 b = some o := upd_new (by rw [upd_ne n.symm]; exact h1) (upd_new h2 h)
theorem made_same (h1 : H y = none) (h2 : H dy = none) (n : dy ≠ y) (s : Same B H) : Same B (upd (upd H dy o1) y o2) := fun c q e => made_keep h1 h2 n (s c q e)
theorem fS_len (S : Side) : (fS S).length < 1000 := ln_Side
end
section
variable {P : Program} {w : World} {K : PySem.W.Frag} {mg : Str → Option Value} {base : Heap}
/-- the sides made so far -/
def SidesN (K : PySem.W.Frag) (B H : Hp) (sc : Scene) (d D : Addr) : Nat → Prop
  | 0 => H D = some (.lst [])
  | 1 => ∃ a, H D = some (.lst [.ref a]) ∧ SideI K H a (sc.side false) ∧ B a = none ∧ d ≠ a
  | _ => ∃ a b, H D = some (.lst [.ref a, .ref b]) ∧ SideI K H a (sc.side false) ∧ SideI K H b (sc.side true) ∧ B a = none ∧ B b = none ∧ d ≠ a ∧ d ≠ b ∧ a ≠ b
/-- the ways made so far -/
def WaysN (B H : Hp) (sc : Scene) (l D : Addr) : Nat → Prop
  | 0 => H D = some (.lst [])
  | 1 => ∃ a, H D = some (.lst [.ref a]) ∧ WayL H a (sc.way false) ∧ B a = none ∧ l ≠ a ∧ D ≠ a
  | _ => ∃ a b, H D = some (.lst [.ref a, .ref b]) ∧ WayL H a (sc.way false) ∧ WayL H b (sc.way true) ∧ B a = none ∧ B b = none ∧ l ≠ a ∧ l ≠ b ∧ D ≠ a ∧ D ≠ b ∧ a ≠ b
theorem SideI.keep {K : PySem.W.Frag} {H H' : Hp} {a : Addr} {S : Side} (h : SideI K H a S) (k : ∀ o, H a = some o → H' a = some o) : SideI K H' a S := by
  obtain ⟨dx, q⟩ := h
  exact ⟨dx, k _ q⟩
theorem WayL.keep {H H' : Hp} {a : Addr} {W : Way} (h : WayL H a W) (k : ∀ o, H a = some o → H' a = some o) (kt : KT2 H H') : WayL H' a W := by
  obtain ⟨as, q1, q2⟩ := h
  exact ⟨as, k _ q1, q2.mono fun _ _ q => q.kt kt⟩
def bsel (f t : Addr) : Bool → Addr := fun e => if e = true then t else f
def spDraftInit (K : PySem.W.Frag) : Sp := fun vs H Q _ => ∃ (x dx st t : Addr) (sc : Scene) (B : Hp), vs = [.ref x, .ref st, .ref t] ∧ H x = some (.ins (He.ga K "Draft") dx []) ∧ SceneAt B t sc ∧ Same B H ∧ B x = none ∧
  ∀ (H' : Hp) (l k : Addr) (ip vp : Bool → Addr), DraftAt K B H' x st l k ip vp sc → Q .non H'
theorem c_Draft_init (T : Txt K mg) : Con P w K mg base 3 (He.ma K (He.ga K "Draft") "__init__") ["self", "setting", "scene"] [] (spDraftInit K) := by
  refine con_of T.d_Draft_init rfl rfl sc_Draft_init (fun _ _ _ _ _ _ us hl => match us, hl with | [_, _, _], _ => rfl) (fun vs H Q E h => ?_) (fun cdv A outer s H vs Q E hr h => ?_)
  · obtain ⟨x, dx, st, t, sc, B, rfl, _⟩ := h
    rfl
  · obtain ⟨x, dx, st, t, sc, B, rfl, hx, ⟨sa, wa, sp, wp, I⟩, sB, bx, q⟩ := h
    have nd := sc_Draft_init.nd
    refine ⟨_, pss_cons (ps_fld (pv 0) (pv 1) rfl)
      (pss_cons (ps_asg (pe_tup (pa_cons (pe_ix ix_tup (pv 2) pe_int (fun _ _ => rfl)) (pa_cons (pe_ix ix_tup (pv 2) pe_int (fun _ _ => rfl)) pa_nil))) (pg_tup rfl (pgs_cons (pg_fld (pv 0)) (pgs_cons (pg_fld (pv 0)) pgs_nil))))
      (pss_cons (ps_fld (pv 0) (pe_lc (own := [("values", 3)]) (g := gName 3) (tt := tYes) (te := tMake (He.ga K "Side") (spSideInit K) [] E0 (tCons (tVar 3) tNil)) rfl nd
          (pi_tup (pe_ix ix_tup (pv 2) pe_int (fun _ _ => rfl))) (blkOk_by (N := N_Draft_init) (sc := defScope st_Draft_init) (by decide +kernel)) (fun _ _ _ _ _ => gn 3 nd) (fun _ _ _ _ _ => pts_nil)
          (fun _ _ _ _ _ => make_c T.m_Side (c_Side_init T) hr T.g_Side (pa_cons (pv 3) pa_nil))) rfl)
      (pss_one (ps_fld (pv 0) (pe_lc (own := [("way", 4)]) (g := gName 4) (tt := tYes) (te := tCB (fun xs H Q => ∃ p ys, xs = [.ref p] ∧ (SqL K H p ys ∨ SqT K H p ys) ∧ ∀ l, H l = none → Q (.ref l) (upd H l (.lst ys))) (tCons (tVar 4) tNil)) rfl nd
          (pi_tup (pe_ix ix_tup (pv 2) pe_int (fun _ _ => rfl))) (blkOk_by (N := N_Draft_init) (sc := defScope st_Draft_init) (by decide +kernel)) (fun _ _ _ _ _ => gn 4 nd) (fun _ _ _ _ _ => pts_nil)
          (fun _ _ _ _ _ => ty call_list_of T.f_list (pa_cons (pv 4) pa_nil))) rfl)))), ?_⟩
    refine ⟨_, rfl, _, rfl, x, _, dx, _, rfl, hx, T.c_Draft, T.n_Draft_setting, by decide, ?_⟩
    generalize hH1 : upd H x (.ins (He.ga K "Draft") dx (putF "setting" (.ref st) [])) = H1
    have s1 : Same B H1 := by rw [← hH1]; exact same_put sB bx
    have hx1 : H1 x = some (.ins (He.ga K "Draft") dx (putF "setting" (.ref st) [])) := by rw [← hH1]; exact upd_same
    clear hH1
    refine ⟨_, rfl, t, _, 0, _, rfl, rfl, SqT.of (s1 _ _ I.top), atI_nat (j := 0) rfl, _, rfl, t, _, 1, _, rfl, rfl, SqT.of (s1 _ _ I.top), atI_nat (j := 1) rfl, (by show 2 ≤ sizeLine; decide), fun p hp => ?_⟩
    have s2 := same_new s1 hp (o := .tup [.int (sc.made : Nat), .int sc.stalls])
    have hx2 := upd_new hp hx1 (o := .tup [.int (sc.made : Nat), .int sc.stalls])
    refine ⟨p, _, rfl, SqT.of upd_same, rfl, _, _, rfl, _, rfl, x, _, dx, _, rfl, hx2, T.c_Draft, T.n_Draft_made, (by show 1 < 1000; decide), _, _, rfl, _, rfl, x, _, dx, _, rfl, upd_same, T.c_Draft, T.n_Draft_stalls, (by show 2 < 1000; decide), rfl, ?_⟩
    generalize upd H1 p (.tup [.int (sc.made : Nat), .int sc.stalls]) = H2 at s2 hx2
    rw [upd_upd]
    generalize hH3 : upd H2 x (.ins (He.ga K "Draft") dx (putF "stalls" (.int sc.stalls) (putF "made" (.int (sc.made : Nat)) (putF "setting" (.ref st) [])))) = H3
    have s3 : Same B H3 := by rw [← hH3]; exact same_put s2 bx
    have hx3 : H3 x = some (.ins (He.ga K "Draft") dx (putF "stalls" (.int sc.stalls) (putF "made" (.int (sc.made : Nat)) (putF "setting" (.ref st) [])))) := by rw [← hH3]; exact upd_same
    clear hH3 hx2 s2 hx1 s1
    -- the sides
    refine ⟨_, rfl, t, _, 2, _, rfl, rfl, SqT.of (s3 _ _ I.top), atI_nat (j := 2) rfl, sa, rfl, ⟨_, SqT.of (s3 _ _ I.sides)⟩, fun D hD => ?_⟩
    have bD : B D = none := s3.free hD
    refine lc_tup (K := K) (xs := [.ref (sp false), .ref (sp true)]) (fun i H' => Same B H' ∧ H' x = some (.ins (He.ga K "Draft") dx (putF "stalls" (.int sc.stalls) (putF "made" (.int (sc.made : Nat)) (putF "setting" (.ref st) [])))) ∧ SidesN K B H' sc x D i)
      ⟨same_new s3 hD, upd_new hD hx3, upd_same⟩ (fun i H' _ z => SqT.of (z.1 _ _ I.sides)) (fun i y H' hi z => ?_) (fun H' z => ?_)
    · obtain ⟨s4, hx4, hN⟩ := z
      refine ⟨rfl, ?_⟩
      refine iteT (B := False) ?_
      have step : ∀ (e : Bool) (acc : List V), H' D = some (.lst acc) → acc.length < sizeLine → y = .ref (sp e) → (∀ (a : Addr) (H5 : Hp), (∀ b o, b ≠ D → H' b = some o → H5 b = some o) → H' a = none → Same B H5 → H5 D = some (.lst (acc ++ [.ref a])) → SideI K H5 a (sc.side e) → SidesN K B H5 sc x D (i + 1)) →
          tMake (He.ga K "Side") (spSideInit K) [] E0 (tCons (tVar 3) tNil) [some (.ref x), some (.ref st), some (.ref t), some y, none] H' fun y H4 => ∃ acc, H4 D = some (.lst acc) ∧ acc.length < sizeLine ∧
            (Same B (upd H4 D (.lst (acc ++ [y]))) ∧ (upd H4 D (.lst (acc ++ [y]))) x = some (.ins (He.ga K "Draft") dx (putF "stalls" (.int sc.stalls) (putF "made" (.int (sc.made : Nat)) (putF "setting" (.ref st) [])))) ∧ SidesN K B (upd H4 D (.lst (acc ++ [y]))) sc x D (i + 1)) := by
        intro e acc hacc hlen hy hk
        subst hy
        refine ⟨_, rfl, fun a da ha hda hn => ?_⟩
        refine ⟨a, da, sp e, sc.side e, rfl, upd_same, made_keep ha hda hn (s4 _ _ (I.side e)), rfl, ?_⟩
        rw [upd_upd]
        have nDa : D ≠ a := ne_of_none hacc ha
        refine ⟨acc, made_keep ha hda hn hacc, hlen, same_put (made_same ha hda hn s4) bD, ?_, hk a _ (fun b o nb hb => ?_) ha (same_put (made_same ha hda hn s4) bD) upd_same ⟨da, ?_⟩⟩
        · rw [upd_ne (ne_of hx4 hacc (by intro z; cases z))]
          exact made_keep ha hda hn hx4
        · rw [upd_ne nb]
          exact made_keep ha hda hn hb
        · rw [upd_ne nDa.symm, upd_same]
      match i, hi, hN with
      | 0, hi, hN =>
        refine step false [] hN (by show 0 < sizeLine; decide) (Option.some.inj hi).symm fun a H5 k5 ha s5 h5 si => ?_
        exact ⟨a, h5, si, s4.free ha, ne_of_none hx4 ha⟩
      | 1, hi, hN =>
        obtain ⟨a0, h0, si0, b0, n0⟩ := hN
        refine step true [.ref a0] h0 (by show 1 < sizeLine; decide) (Option.some.inj hi).symm fun a H5 k5 ha s5 h5 si => ?_
        obtain ⟨d0, hd0⟩ := id si0
        exact ⟨a0, a, h5, si0.keep fun o q => k5 _ _ (ne_of hd0 h0 (by intro z; cases z)) q, si, b0, s4.free ha, n0, ne_of_none hx4 ha, ne_of_none hd0 ha⟩
      | n + 2, hi, hN => cases hi
    · obtain ⟨s4, hx4, hN⟩ := z
      obtain ⟨i0, i1, hl4, si0, si1, bi0, bi1, n0, n1, n01⟩ := hN
      refine ⟨_, rfl, x, _, dx, _, rfl, hx4, T.c_Draft, T.n_Draft_sides, (by show 3 < 1000; decide), ?_⟩
      have nDx : D ≠ x := ne_of hl4 hx4 (by intro z; cases z)
      obtain ⟨d0, hi0⟩ := si0
      obtain ⟨d1, hi1⟩ := si1
      generalize hH5 : upd H' x (.ins (He.ga K "Draft") dx (putF "sides" (.ref D) (putF "stalls" (.int sc.stalls) (putF "made" (.int (sc.made : Nat)) (putF "setting" (.ref st) []))))) = H5
      have s5 : Same B H5 := by rw [← hH5]; exact same_put s4 bx
      have hx5 : H5 x = some (.ins (He.ga K "Draft") dx (putF "sides" (.ref D) (putF "stalls" (.int sc.stalls) (putF "made" (.int (sc.made : Nat)) (putF "setting" (.ref st) []))))) := by rw [← hH5]; exact upd_same
      have hl5 : H5 D = some (.lst [.ref i0, .ref i1]) := by rw [← hH5, upd_ne nDx]; exact hl4
      have hi05 : H5 i0 = some (.ins (He.ga K "Side") d0 (fS (sc.side false))) := by rw [← hH5, upd_ne n0.symm]; exact hi0
      have hi15 : H5 i1 = some (.ins (He.ga K "Side") d1 (fS (sc.side true))) := by rw [← hH5, upd_ne n1.symm]; exact hi1
      clear hH5
      -- the ways
      refine ⟨_, rfl, t, _, 3, _, rfl, rfl, SqT.of (s5 _ _ I.top), atI_nat (j := 3) rfl, wa, rfl, ⟨_, SqT.of (s5 _ _ I.ways)⟩, fun D2 hD2 => ?_⟩
      have bD2 : B D2 = none := s5.free hD2
      have nDD : D ≠ D2 := ne_of_none hl5 hD2
      refine lc_tup (K := K) (xs := [.ref (wp false), .ref (wp true)]) (fun i H' => Same B H' ∧ (∀ b o, b ≠ D2 → H5 b = some o → H' b = some o) ∧ WaysN B H' sc D D2 i)
        ⟨same_new s5 hD2, fun b o nb e => upd_new hD2 e, upd_same⟩ (fun i H' _ z => SqT.of (z.1 _ _ I.ways)) (fun i y H' hi z => ?_) (fun H' z => ?_)
      · obtain ⟨s6, k6, hN⟩ := z
        refine ⟨rfl, ?_⟩
        refine iteT (B := False) ?_
        have step : ∀ (e : Bool) (acc : List V), H' D2 = some (.lst acc) → acc.length < sizeLine → y = .ref (wp e) → (∀ (a : Addr) (H7 : Hp), (∀ b o, b ≠ D2 → H' b = some o → H7 b = some o) → KT2 H' H7 → H' a = none → Same B H7 → H7 D2 = some (.lst (acc ++ [.ref a])) → WayL H7 a (sc.way e) → WaysN B H7 sc D D2 (i + 1)) →
            tCB (fun xs H Q => ∃ p ys, xs = [.ref p] ∧ (SqL K H p ys ∨ SqT K H p ys) ∧ ∀ l, H l = none → Q (.ref l) (upd H l (.lst ys))) (tCons (tVar 4) tNil) [some (.ref x), some (.ref st), some (.ref t), none, some y] H' fun y H4 => ∃ acc, H4 D2 = some (.lst acc) ∧ acc.length < sizeLine ∧
              (Same B (upd H4 D2 (.lst (acc ++ [y]))) ∧ (∀ b o, b ≠ D2 → H5 b = some o → (upd H4 D2 (.lst (acc ++ [y]))) b = some o) ∧ WaysN B (upd H4 D2 (.lst (acc ++ [y]))) sc D D2 (i + 1)) := by
          intro e acc hacc hlen hy hk
          subst hy
          obtain ⟨as, w1, w2⟩ := I.way e
          refine ⟨_, rfl, wp e, _, rfl, .inr (SqT.of (s6 _ _ w1)), fun a ha => ?_⟩
          have nDa : D2 ≠ a := ne_of_none hacc ha
          have kk : ∀ b o, b ≠ D2 → H' b = some o → (upd (upd H' a (.lst (as.map V.ref))) D2 (.lst (acc ++ [.ref a]))) b = some o := fun b o nb hb => by
            rw [upd_ne nb]
            exact upd_new ha hb
          have sk := same_put (same_new s6 ha (o := .lst (as.map V.ref))) bD2 (o := .lst (acc ++ [.ref a]))
          refine ⟨acc, upd_new ha hacc, hlen, sk, fun b o nb hb => kk _ _ nb (k6 _ _ nb hb), hk a _ kk ⟨fun b xs hb => kk b _ (ne_of hb hacc (by intro z; cases z)) hb⟩ ha sk upd_same ⟨as, by rw [upd_ne nDa.symm, upd_same], w2.mono fun _ _ q => sk _ _ q⟩⟩
        match i, hi, hN with
        | 0, hi, hN =>
          refine step false [] hN (by show 0 < sizeLine; decide) (Option.some.inj hi).symm fun a H7 k7 kt7 ha s7 h7 wl => ?_
          exact ⟨a, h7, wl, s6.free ha, ne_of_none (k6 _ _ nDD hl5) ha, ne_of_none hN ha⟩
        | 1, hi, hN =>
          obtain ⟨a0, h0, wl0, b0, n0, nD0⟩ := hN
          refine step true [.ref a0] h0 (by show 1 < sizeLine; decide) (Option.some.inj hi).symm fun a H7 k7 kt7 ha s7 h7 wl => ?_
          obtain ⟨as0, h00, _⟩ := id wl0
          exact ⟨a0, a, h7, wl0.keep (fun o q => k7 _ _ nD0.symm q) kt7, wl, b0, s6.free ha, n0, ne_of_none (k6 _ _ nDD hl5) ha, nD0, ne_of_none h0 ha, ne_of_none h00 ha⟩
        | n + 2, hi, hN => cases hi
      · obtain ⟨s6, k6, hN⟩ := z
        obtain ⟨v0, v1, hk6, wl0, wl1, bv0, bv1, m0, m1, nD0, nD1, m01⟩ := hN
        have hx6 := k6 _ _ (ne_of_none hx5 hD2) hx5
        refine ⟨_, rfl, x, _, dx, _, rfl, hx6, T.c_Draft, T.n_Draft_ways, (by show 4 < 1000; decide), ?_⟩
        rw [mk_Draft]
        obtain ⟨as0, wl0, wq0⟩ := wl0
        obtain ⟨as1, wl1, wq1⟩ := wl1
        have ni : ∀ c xs, H' c = some (.lst xs) → c ≠ x := fun c xs q z => by rw [z, hx6] at q; cases q
        refine q _ D D2 (bsel i0 i1) (bsel v0 v1) ⟨same_put s6 bx, ⟨dx, upd_same⟩, ?_, ?_, fun e => ?_, fun e => ?_, bx, fun e => ?_, fun e => ?_, n01, m01, fun e => ?_, fun e => ?_, fun e => ?_⟩
        · rw [upd_ne (ni _ _ (k6 _ _ nDD hl5))]
          exact k6 _ _ nDD hl5
        · rw [upd_ne (ni _ _ hk6)]
          exact hk6
        · cases e
          · exact ⟨d0, by rw [show bsel i0 i1 false = i0 from rfl, upd_ne n0.symm]; exact k6 _ _ (ne_of_none hi05 hD2) hi05⟩
          · exact ⟨d1, by rw [show bsel i0 i1 true = i1 from rfl, upd_ne n1.symm]; exact k6 _ _ (ne_of_none hi15 hD2) hi15⟩
        · cases e
          · exact ⟨as0, by rw [show bsel v0 v1 false = v0 from rfl, upd_ne (ni _ _ wl0)]; exact wl0, wq0.mono fun _ _ q => q.put hx6 (fun _ z => nomatch z)⟩
          · exact ⟨as1, by rw [show bsel v0 v1 true = v1 from rfl, upd_ne (ni _ _ wl1)]; exact wl1, wq1.mono fun _ _ q => q.put hx6 (fun _ z => nomatch z)⟩
        · cases e
          · exact bi0
          · exact bi1
        · cases e
          · exact bv0
          · exact bv1
        · cases e
          · exact n0
          · exact n1
        · cases e
          · exact m0
          · exact m1
        · cases e
          · exact nD0
          · exact nD1
end
end Lw

namespace Lw
open PySem PySem.Spec PyProof.Rows L2
open LW (Hold Mode Pol Cfg Write Side Scene Parts Way Rule)
theorem SetAt.size {K : PySem.W.Frag} {H : Hp} {a : Addr} {c : Cfg} (h : SetAt K H a c) : ∃ dx t, H a = some (.ins (He.ga K "Setting") dx (f_Setting c.size t)) := by
  obtain ⟨dx, t, _, _, h, _⟩ := h
  exact ⟨dx, t, h⟩
section
variable {sc : Scene} {e : Bool} {S T : Side} {A B : Way}
theorem put_get : ∀ b, (sc.put e S T A B).side b = if b = e then S else T := by
  intro b
  cases b <;> cases e <;> rfl
end
section
variable {P : Program} {w : World} {K : PySem.W.Frag} {mg : Str → Option Value} {base : Heap}
/-- a segment of c bytes is sent by e -/
def sendS (cfg : Cfg) (sc : Scene) (e : Bool) (c : Int) : Scene := sc.put e ((sc.side e).sent cfg.size c) (sc.side !e) (sc.way e ++ [(c, (sc.side e).heard)]) (sc.way !e)
def spSend (K : PySem.W.Frag) : Sp := fun vs H Q _ => ∃ (B : Hp) (d st l k : Addr) (ip vp : Bool → Addr) (sc : Scene) (cfg : Cfg) (e : Bool) (c : Int), vs = [.ref d, .int (eV e), .int c] ∧ DraftAt K B H d st l k ip vp sc ∧ SetAt K B st cfg ∧ (sc.way e).length < 100000 ∧
  ∀ (H' : Hp), DraftAt K B H' d st l k ip vp (sendS cfg sc e c) → Q .non H'
theorem c_Draft_send (T : Txt K mg) : Con P w K mg base 1 (He.ma K (He.ga K "Draft") "send") ["self", "endpoint", "count"] [] (spSend K) := by
  refine con_of T.d_Draft_send rfl rfl sc_Draft_send (fun _ _ _ _ _ _ us hl => match us, hl with | [_, _, _], _ => rfl) (fun vs H Q E h => ?_) (fun cdv A outer s H vs Q E hr h => ?_)
  · obtain ⟨B, d, st, l, k, ip, vp, sc, cfg, e, c, rfl, _⟩ := h
    rfl
  · obtain ⟨B, d, st, l, k, ip, vp, sc, cfg, e, c, rfl, D, hS, hw, q⟩ := h
    have nd := sc_Draft_send.nd
    obtain ⟨ddx, hd⟩ := D.ins
    obtain ⟨dx, hi⟩ := D.side e
    obtain ⟨sdx, stp, hst⟩ := hS.size
    generalize hSe : sc.side e = S at hi
    refine ⟨_, pss_cons (ss 3 nd (pe_ix ix_list (pe_fld (pv 0) rfl) (pv 1) (fun _ _ => rfl)))
      (pss_cons (ps_fldaug (pv 3) (pv 2) in_sub)
      (pss_cons (ps_fldaug (pv 3) (pv 2) in_add)
      (pss_cons (ps_fld (pv 3) pe_int rfl)
      (C8.pss_cut (ps_if (pt_chain op_lt op_lt pe_int (pv 2) (pe_fld (pe_fld (pv 0) rfl) rfl)) (pss_cons (ps_fld (pv 3) (pe_fld (pv 3) rfl) rfl) (pss_one (ps_fld (pv 3) pe_bl rfl))) pss_nil)
      (pss_one (ps_expr (pe_bm PySem.F.plainAttrs_list PySem.F.slot_list_append PySem.F.type_list_append mt_append (pe_ix ix_list (pe_fld (pv 0) rfl) (pv 1) (fun _ _ => rfl)) (pa_cons (pe_tup (pa_cons (pv 2) (pa_cons (pe_fld (pv 3) rfl) pa_nil))) pa_nil)))))))), ?_⟩
    refine ⟨_, rfl, d, _, ddx, _, _, rfl, hd, T.c_Draft, T.n_Draft_sides, lk_Draft_sides, _, rfl, l, _, _, _, rfl, rfl, SqL.of D.sides, at_e e, ?_⟩
    refine ⟨_, rfl, ip e, _, dx, _, _, rfl, hi, T.c_Side, T.n_Side_waiting, lk_Side_waiting, _, rfl, _, _, rfl, rfl, dx, _, hi, ln_Side, ?_⟩
    rw [pf_Side_waiting]
    refine ⟨_, rfl, ip e, _, dx, _, _, rfl, upd_same, T.c_Side, T.n_Side_out, lk_Side_out, _, rfl, _, _, rfl, rfl, dx, _, upd_same, ln_Side, ?_⟩
    rw [pf_Side_out, upd_upd]
    refine ⟨_, rfl, ip e, _, dx, _, rfl, upd_same, T.c_Side, T.n_Side_fulls, ln_Side, ?_⟩
    rw [pf_Side_fulls, upd_upd]
    have hdk : ∀ o, upd H (ip e) o d = _ := fun o => (upd_ne (D.nd e)).trans hd
    have hsk : ∀ o, upd H (ip e) o st = some (.ins (He.ga K "Setting") sdx (f_Setting cfg.size stp)) := fun o => same_put D.same (D.fi e) _ _ hst
    refine ⟨fun σ H' => σ = [some (.ref d), some (.int (eV e)), some (.int c), some (.ref (ip e))] ∧ upd H (ip e) (.ins (He.ga K "Side") dx (fS (S.sent cfg.size c))) = H', ?_, ?_⟩
    · refine ⟨_, rfl, _, _, rfl, rfl, _, rfl, ?_⟩
      by_cases h0 : (0 : Int) < c
      · rw [decide_eq_true h0]
        refine iteT ⟨_, rfl, d, _, ddx, _, _, rfl, hdk _, T.c_Draft, T.n_Draft_setting, lk_Draft_setting, st, _, sdx, _, _, rfl, hsk _, T.c_Setting, T.n_Setting_size, lk_Setting_size, _, _, rfl, rfl, _, rfl, ?_⟩
        by_cases h1 : c < cfg.size
        · rw [decide_eq_true h1]
          refine iteT ⟨_, rfl, ip e, _, dx, _, _, rfl, upd_same, T.c_Side, T.n_Side_out, lk_Side_out, _, rfl, ip e, _, dx, _, rfl, upd_same, T.c_Side, T.n_Side_mark, ln_Side, ?_⟩
          rw [pf_Side_mark, upd_upd]
          refine ⟨_, rfl, ip e, _, dx, _, rfl, upd_same, T.c_Side, T.n_Side_corked, ln_Side, ?_⟩
          rw [pf_Side_corked, upd_upd]
          refine ⟨rfl, ?_⟩
          unfold Side.sent
          rw [if_pos ⟨h0, h1⟩, if_pos ⟨h0, h1⟩]
        · rw [decide_eq_false h1]
          refine iteF ⟨rfl, ?_⟩
          unfold Side.sent
          rw [if_neg (fun z => h1 z.2), if_neg (fun z => h1 z.2)]
      · rw [decide_eq_false h0]
        refine iteF ⟨_, rfl, iteF ⟨rfl, ?_⟩⟩
        unfold Side.sent
        rw [if_neg (fun z => h0 z.1), if_neg (fun z => h0 z.1)]
    · rintro _ _ ⟨rfl, rfl⟩
      have D1 := D.setSide e (dx := dx) (S := S.sent cfg.size c) ⟨_, hi⟩
      obtain ⟨as, hv, hvA⟩ := D1.way e
      refine ⟨_, rfl, d, _, ddx, _, _, rfl, hdk _, T.c_Draft, T.n_Draft_ways, lk_Draft_ways, _, rfl, k, _, _, _, rfl, rfl, SqL.of D1.ways, at_e e, .inl ⟨rfl, _, SqL.of hv⟩, _, rfl, _, rfl, ip e, _, dx, _, _, rfl, upd_same, T.c_Side, T.n_Side_heard, lk_Side_heard, (by show 2 ≤ sizeLine; decide), fun p hp => ?_⟩
      have D2 := D1.new hp (o := .tup [.int c, .int (S.sent cfg.size c).heard])
      have hv2 := upd_new hp hv (o := .tup [.int c, .int (S.sent cfg.size c).heard])
      have hvA2 : All2 (PairT (upd (upd H (ip e) (.ins (He.ga K "Side") dx (fS (S.sent cfg.size c)))) p (.tup [.int c, .int (S.sent cfg.size c).heard]))) as (sc.way e) := by
        rw [LW.put_way] at hvA
        exact hvA.mono fun _ _ q => upd_new hp q
      refine ⟨vp e, _, _, rfl, rfl, hv2, by rw [List.length_map, hvA2.len]; exact Nat.lt_trans hw (by decide), ?_⟩
      have D3 := D2.setWay e (as := as ++ [p]) (W := sc.way e ++ [(c, S.heard)]) (hvA2.snoc upd_same)
      rw [List.map_append] at D3
      refine q _ ?_
      have e3 : (sc.put e (S.sent cfg.size c) (sc.side !e) (sc.way e) (sc.way !e)).put e ((sc.put e (S.sent cfg.size c) (sc.side !e) (sc.way e) (sc.way !e)).side e) ((sc.put e (S.sent cfg.size c) (sc.side !e) (sc.way e) (sc.way !e)).side !e) (sc.way e ++ [(c, S.heard)])
          ((sc.put e (S.sent cfg.size c) (sc.side !e) (sc.way e) (sc.way !e)).way !e) = sendS cfg sc e c := by
        unfold sendS
        rw [LW.put_put, LW.put_side, LW.put_side', LW.put_way', hSe]
      rw [e3] at D3
      exact D3
end
end Lw

namespace Lw
open PySem PySem.Spec PyProof.Rows L2
open LW (Hold Mode Pol Cfg Write Side Scene Parts Way Rule fullN wrC)
section
variable {size : Int}
theorem fullN_waiting (x : Side × Way) : ∀ n : Nat, (fullN size n x).1.waiting = x.1.waiting - n * size ∧ (fullN size n x).2.length = x.2.length + n
  | 0 => ⟨by simp [fullN], rfl⟩
  | n + 1 => by
    obtain ⟨h1, h2⟩ := fullN_waiting x n
    refine ⟨?_, ?_⟩
    · show (fullN size n x).1.waiting - size = _
      rw [h1]
      have : ((n + 1 : Nat) : Int) * size = n * size + size := by
        rw [show ((n + 1 : Nat) : Int) = n + 1 from rfl, Int.add_mul, Int.one_mul]
      omega
    · show ((fullN size n x).2 ++ [_]).length = _
      rw [List.length_append, h2]
      rfl
end
section
variable {P : Program} {w : World} {K : PySem.W.Frag} {mg : Str → Option Value} {base : Heap}
/-- what a draft's method leaves: the promise of a store -/
def putE (sc : Scene) (e : Bool) (x : Side × Way) : Scene := sc.put e x.1 (sc.side !e) x.2 (sc.way !e)
theorem putE_side {sc : Scene} {e : Bool} {x : Side × Way} : (putE sc e x).side e = x.1 := LW.put_side
theorem putE_way {sc : Scene} {e : Bool} {x : Side × Way} : (putE sc e x).way e = x.2 := LW.put_way
theorem putE_send {sc : Scene} {e : Bool} {x : Side × Way} {cfg : Cfg} {c : Int} : sendS cfg (putE sc e x) e c = putE sc e (x.1.sent cfg.size c, x.2 ++ [(c, x.1.heard)]) := by
  unfold sendS putE
  rw [LW.put_put, LW.put_side, LW.put_side', LW.put_way, LW.put_way']
/-- setting.policies[e].hold and its like -/
theorem SetAt.at_ {K : PySem.W.Frag} {H : Hp} {a : Addr} {c : Cfg} (h : SetAt K H a c) (e : Bool) : ∃ dx t q ps dp, H a = some (.ins (He.ga K "Setting") dx (f_Setting c.size t)) ∧ H t = some (.tup ps) ∧ atI ps (eV e) = some (.ref q) ∧
    H q = some (.ins (He.ga K "Policy") dp (f_Policy (hV (c.pol e).hold) (c.pol e).every (c.pol e).quick)) := by
  obtain ⟨dx, t, q, h1, h2⟩ := h.pol
  obtain ⟨ps, a1, a2, dp, a3⟩ := h2 e
  exact ⟨dx, t, q e, ps, dp, h1, a1, a2, a3⟩
def spWrite (K : PySem.W.Frag) : Sp := fun vs H Q _ => ∃ (B : Hp) (d st l k : Addr) (ip vp : Bool → Addr) (sc : Scene) (cfg : Cfg) (e : Bool) (len : Int) (mode : Mode), vs = [.ref d, .int (eV e), .int len, .str (mV mode)] ∧ DraftAt K B H d st l k ip vp sc ∧ SetAt K B st cfg ∧ CfgOk cfg ∧
  0 ≤ (sc.side e).waiting ∧ 1 ≤ len ∧ (sc.way e).length + ((sc.side e).waiting + len).toNat < 90000 ∧
  ∀ (H' : Hp), DraftAt K B H' d st l k ip vp (putE sc e (wrC cfg.size (cfg.pol e).hold (sc.side e) (sc.way e) len mode)) → Q .non H'
theorem c_Draft_write (T : Txt K mg) : Con P w K mg base 2 (He.ma K (He.ga K "Draft") "write") ["self", "endpoint", "length", "mode"] [] (spWrite K) := by
  refine con_of T.d_Draft_write rfl rfl sc_Draft_write (fun _ _ _ _ _ _ us hl => match us, hl with | [_, _, _, _], _ => rfl) (fun vs H Q E h => ?_) (fun cdv A outer s H vs Q E hr h => ?_)
  · obtain ⟨B, d, st, l, k, ip, vp, sc, cfg, e, len, mode, rfl, _⟩ := h
    rfl
  · obtain ⟨B, d, st, l, k, ip, vp, sc, cfg, e, len, mode, rfl, D, hS, ok, w0, hl, hb, q⟩ := h
    have nd := sc_Draft_write.nd
    obtain ⟨ddx, hd⟩ := D.ins
    obtain ⟨dx, hi⟩ := D.side e
    have z1 := ok.s1
    refine ⟨_, pss_cons (ss 4 nd (pe_ix ix_list (pe_fld (pv 0) rfl) (pv 1) (fun _ _ => rfl)))
      (pss_cons (ps_fldaug (pv 4) (pv 2) in_add)
      (pss_cons (ps_fld (pv 4) pe_bl rfl)
      (pss_cons (ps_while PassesOwn.never (pt_cmpR op_ge (pe_fld (pv 4) rfl) (pe_fld (pe_fld (pv 0) rfl) rfl) (nomark _)) (pss_one (ps_expr (meth_c (pv 0) T.c_Draft T.t_Draft_send (c_Draft_send T) hr (pa_cons (pv 1) (pa_cons (pe_fld (pe_fld (pv 0) rfl) rfl) pa_nil))))))
      (pss_cons (ps_if (pt_cmpR op_eq (pe_fld (pv 4) rfl) pe_int (nomark _)) (pss_one ps_retN) pss_nil)
      (pss_one (ps_if (pt_cmpR op_eq (pv 3) pe_str (nomark _)) (pss_one (ps_fld (pv 4) pe_bl rfl))
        (pss_one (ps_if (PW.pt (pw_or (pt_cmpR op_eq (pv 3) pe_str (nomark _)) (pw_or1 (pt_val (meth_c (pv 4) T.c_Side T.t_Side_permits (c_Side_permits T) hr (pa_cons (pe_fld (pe_ix ix_tup (pe_fld (pe_fld (pv 0) rfl) rfl) (pv 1) (fun _ _ => rfl)) rfl) pa_nil))))))
          (pss_one (ps_expr (meth_c (pv 0) T.c_Draft T.t_Draft_send (c_Draft_send T) hr (pa_cons (pv 1) (pa_cons (pe_fld (pv 4) rfl) pa_nil))))) pss_nil)))))))), ?_⟩
    refine ⟨_, rfl, d, _, ddx, _, _, rfl, hd, T.c_Draft, T.n_Draft_sides, lk_Draft_sides, _, rfl, l, _, _, _, rfl, rfl, SqL.of D.sides, at_e e, ?_⟩
    refine ⟨_, rfl, ip e, _, dx, _, _, rfl, hi, T.c_Side, T.n_Side_waiting, lk_Side_waiting, _, rfl, _, _, rfl, rfl, dx, _, hi, ln_Side, ?_⟩
    rw [pf_Side_waiting]
    refine ⟨_, rfl, ip e, _, dx, _, rfl, upd_same, T.c_Side, T.n_Side_corked, ln_Side, ?_⟩
    rw [pf_Side_corked, upd_upd]
    have D1 := D.setSide e (dx := dx) (S := { sc.side e with waiting := (sc.side e).waiting + len, corked := false }) ⟨_, hi⟩
    generalize upd H (ip e) (.ins (He.ga K "Side") dx (f_Side ((sc.side e).waiting + len) false (sc.side e).out (sc.side e).covered (sc.side e).heard (sc.side e).fulls (sc.side e).arrived (sc.side e).mark)) = H1 at D1
    generalize hx0 : (({ sc.side e with waiting := (sc.side e).waiting + len, corked := false } : Side), sc.way e) = x0
    have hx1 : x0.1 = { sc.side e with waiting := (sc.side e).waiting + len, corked := false } := by rw [← hx0]
    have hx2 : x0.2 = sc.way e := by rw [← hx0]
    have D1 : DraftAt K B H1 d st l k ip vp (putE sc e (fullN cfg.size 0 x0)) := by
      unfold putE
      show DraftAt K B H1 d st l k ip vp (sc.put e x0.1 (sc.side !e) x0.2 (sc.way !e))
      rw [hx1, hx2]
      exact D1
    have hwt : x0.1.waiting = (sc.side e).waiting + len := by rw [hx1]
    generalize hN : (((sc.side e).waiting + len) / cfg.size).toNat = N
    have q0 : 0 ≤ ((sc.side e).waiting + len) / cfg.size := Int.ediv_nonneg (by omega) (by omega)
    have hNI : (N : Int) = ((sc.side e).waiting + len) / cfg.size := by rw [← hN]; exact Int.toNat_of_nonneg q0
    have hdiv := Int.emod_add_mul_ediv ((sc.side e).waiting + len) cfg.size
    have hm0 := Int.emod_nonneg ((sc.side e).waiting + len) (show cfg.size ≠ 0 by omega)
    have hm1 := Int.emod_lt_of_pos ((sc.side e).waiting + len) (show 0 < cfg.size by omega)
    rw [← hNI] at hdiv
    have hNle : (N : Int) ≤ (sc.side e).waiting + len := by
      have : (N : Int) * 1 ≤ (N : Int) * cfg.size := Int.mul_le_mul_of_nonneg_left z1 (by omega)
      rw [Int.mul_comm] at hdiv
      omega
    -- the loop's condition
    have cond : ∀ n : Nat, n ≤ N → (cfg.size ≤ (fullN cfg.size n x0).1.waiting ↔ n < N) := by
      intro n hn
      rw [(fullN_waiting x0 n).1, hwt]
      constructor
      · intro h
        by_cases c : n < N
        · exact c
        · have e : n = N := by omega
          subst e
          rw [Int.mul_comm] at hdiv
          omega
      · intro c
        have : ((n : Int) + 1) * cfg.size ≤ (N : Int) * cfg.size := Int.mul_le_mul_of_nonneg_right (by omega) (by omega)
        rw [Int.add_mul, Int.one_mul] at this
        rw [Int.mul_comm] at hdiv
        omega
    refine ⟨fun m σ H' => ∃ n : Nat, n ≤ N ∧ m = N - n ∧ σ = [some (.ref d), some (.int (eV e)), some (.int len), some (.str (mV mode)), some (.ref (ip e))] ∧ DraftAt K B H' d st l k ip vp (putE sc e (fullN cfg.size n x0)), ⟨N, 0, Nat.zero_le _, rfl, rfl, D1⟩, ?_⟩
    rintro m σ H2 ⟨n, hn, rfl, rfl, D2⟩
    obtain ⟨ddx, hd⟩ := D2.ins
    obtain ⟨dx, hi⟩ := D2.side e
    obtain ⟨sdx, stp, hst⟩ := (hS.mono D2.same).size
    rw [putE_side] at hi
    refine ⟨_, rfl, ip e, _, dx, _, _, rfl, hi, T.c_Side, T.n_Side_waiting, lk_Side_waiting, _, rfl, d, _, ddx, _, _, rfl, hd, T.c_Draft, T.n_Draft_setting, lk_Draft_setting, st, _, sdx, _, _, rfl, hst, T.c_Setting, T.n_Setting_size, lk_Setting_size, _, _, rfl, rfl, _, rfl, ?_⟩
    have lenN : ∀ j : Nat, j ≤ N → (fullN cfg.size j x0).2.length < 100000 := by
      intro j hj
      rw [(fullN_waiting x0 j).2, hx2]
      omega
    by_cases c : n < N
    · rw [decide_eq_true ((cond n hn).mpr c)]
      refine iteT ⟨fun σ' H' => σ' = [some (.ref d), some (.int (eV e)), some (.int len), some (.str (mV mode)), some (.ref (ip e))] ∧ DraftAt K B H' d st l k ip vp (putE sc e (fullN cfg.size (n + 1) x0)), fun σ' H' z => ⟨N - (n + 1), by omega, n + 1, by omega, rfl, z.1, z.2⟩, ?_⟩
      refine ⟨_, rfl, d, ddx, _, rfl, hd, no_Draft_send, _, rfl, _, rfl, d, _, ddx, _, _, rfl, hd, T.c_Draft, T.n_Draft_setting, lk_Draft_setting, st, _, sdx, _, _, rfl, hst, T.c_Setting, T.n_Setting_size, lk_Setting_size, B, d, st, l, k, ip, vp, _, cfg, e, cfg.size, rfl, D2, hS, by rw [putE_way]; exact lenN n hn, fun H3 D3 => ?_⟩
      rw [putE_send] at D3
      exact ⟨rfl, D3⟩
    · have en : n = N := by omega
      subst en
      rw [decide_eq_false (fun z => c ((cond n hn).mp z))]
      refine iteF ?_
      have ew : wrC cfg.size (cfg.pol e).hold (sc.side e) (sc.way e) len mode = if (fullN cfg.size n x0).1.waiting = 0 then fullN cfg.size n x0
          else if mode = .more then ({ (fullN cfg.size n x0).1 with corked := true }, (fullN cfg.size n x0).2)
          else if mode = .push ∨ (fullN cfg.size n x0).1.permits (cfg.pol e).hold = true then ((fullN cfg.size n x0).1.sent cfg.size (fullN cfg.size n x0).1.waiting, (fullN cfg.size n x0).2 ++ [((fullN cfg.size n x0).1.waiting, (fullN cfg.size n x0).1.heard)])
          else fullN cfg.size n x0 := by
        unfold wrC
        rw [hN, hx0]
      rw [ew] at q
      have ln := lenN n hn
      generalize fullN cfg.size n x0 = x at q D2 hi ln
      refine ⟨_, rfl, ip e, _, dx, _, _, rfl, hi, T.c_Side, T.n_Side_waiting, lk_Side_waiting, rfl, _, rfl, ?_⟩
      by_cases hz : x.1.waiting = 0
      · rw [if_pos hz] at q
        refine iteD (congrArg V.int hz) ?_
        exact q H2 D2
      · rw [if_neg hz] at q
        refine iteDn (fun z => hz (V.int.inj z)) ?_
        refine ⟨_, rfl, rfl, _, rfl, ?_⟩
        by_cases hm : mode = .more
        · subst hm
          rw [if_pos rfl] at q
          refine iteD rfl ⟨_, rfl, ip e, _, dx, _, rfl, hi, T.c_Side, T.n_Side_corked, ln_Side, ?_⟩
          rw [pf_Side_corked]
          refine q _ ?_
          have D3 := D2.setSide e (dx := dx) (S := { x.1 with corked := true }) ⟨_, hi⟩
          have e3 : (putE sc e x).put e { x.1 with corked := true } ((putE sc e x).side !e) ((putE sc e x).way e) ((putE sc e x).way !e) = putE sc e ({ x.1 with corked := true }, x.2) := by
            unfold putE
            rw [LW.put_put, LW.put_side', LW.put_way, LW.put_way']
          rw [e3] at D3
          exact D3
        · rw [if_neg hm] at q
          have hs : ¬ V.str (mV mode) = V.str "more" := by cases mode <;> first | exact absurd rfl hm | decide +kernel
          refine iteDn hs ?_
          refine ⟨_, rfl, rfl, _, rfl, ?_⟩
          by_cases hp : mode = .push
          · subst hp
            rw [if_pos (Or.inl rfl)] at q
            refine iteD rfl (iteT ?_)
            refine ⟨_, rfl, d, ddx, _, rfl, hd, no_Draft_send, _, rfl, _, rfl, ip e, _, dx, _, _, rfl, hi, T.c_Side, T.n_Side_waiting, lk_Side_waiting, B, d, st, l, k, ip, vp, _, cfg, e, x.1.waiting, rfl, D2, hS, by rw [putE_way]; exact ln, fun H3 D3 => ?_⟩
            rw [putE_send] at D3
            exact q H3 D3
          · have hs : ¬ V.str (mV mode) = V.str "push" := by cases mode <;> first | exact absurd rfl hp | decide +kernel
            refine iteDn hs ?_
            obtain ⟨dx2, tp, qp, ps, dp, a1, a2, a3, a4⟩ := (hS.mono D2.same).at_ e
            refine ⟨_, rfl, ip e, dx, _, rfl, hi, no_Side_permits, _, rfl, d, _, ddx, _, _, rfl, hd, T.c_Draft, T.n_Draft_setting, lk_Draft_setting, st, _, dx2, _, _, rfl, a1, T.c_Setting, T.n_Setting_policies, lk_Setting_policies, _, rfl, tp, _, _, _, rfl, rfl, SqT.of a2, a3, qp, _, dp, _, _, rfl, a4, T.c_Policy, T.n_Policy_hold, lk_Policy_hold,
              ip e, x.1, (cfg.pol e).hold, rfl, ⟨dx, hi⟩, _, rfl, ?_⟩
            cases hpm : x.1.permits (cfg.pol e).hold with
            | true =>
              rw [if_pos (Or.inr hpm)] at q
              refine iteT ?_
              refine ⟨_, rfl, d, ddx, _, rfl, hd, no_Draft_send, _, rfl, _, rfl, ip e, _, dx, _, _, rfl, hi, T.c_Side, T.n_Side_waiting, lk_Side_waiting, B, d, st, l, k, ip, vp, _, cfg, e, x.1.waiting, rfl, D2, hS, by rw [putE_way]; exact ln, fun H3 D3 => ?_⟩
              rw [putE_send] at D3
              exact q H3 D3
            | false =>
              rw [if_neg (fun z => z.elim hp (fun z => by rw [hpm] at z; cases z))] at q
              refine iteF ?_
              exact q H2 D2
end
end Lw

namespace Lw
open PySem PySem.Spec PyProof.Rows L2
open LW (Hold Mode Pol Cfg Write Side Scene Parts Way Rule fullN wrC recv isF)
section
variable {sc : Scene} {e : Bool} {S R R' : Side} {r W W' : Way} {cfg : Cfg} {c : Int}
theorem flip_send : sendS cfg (sc.put e S R r W) (!e) c = sc.put e S (R.sent cfg.size c) r (W ++ [(c, R.heard)]) := by cases e <;> rfl
theorem flip_side : (sc.put e S R r W).put (!e) R' ((sc.put e S R r W).side !!e) ((sc.put e S R r W).way !e) ((sc.put e S R r W).way !!e) = sc.put e S R' r W := by cases e <;> rfl
theorem pop_way : sc.put e (sc.side e) (sc.side !e) r (sc.way !e) = sc.put e (sc.side e) (sc.side !e) r (sc.way !e) := rfl
end
theorem seq0 (n : Nat) : seqIndex? 0 (n + 1) = some 0 := by
  unfold seqIndex?
  simp
theorem max_eq (i j : Int) : (if j > i then j else i) = max i j := by
  rw [Int.max_def]
  split <;> split <;> omega
section
variable {P : Program} {w : World} {K : PySem.W.Frag} {mg : Str → Option Value} {base : Heap}
def spArrive (K : PySem.W.Frag) : Sp := fun vs H Q _ => ∃ (B : Hp) (d st l k : Addr) (ip vp : Bool → Addr) (sc : Scene) (cfg : Cfg) (e : Bool), vs = [.ref d, .int (eV e)] ∧ DraftAt K B H d st l k ip vp sc ∧ SetAt K B st cfg ∧ sc.way e ≠ [] ∧ (sc.way !e).length < 90000 ∧
  ∀ (H' : Hp), DraftAt K B H' d st l k ip vp (sc.arrive cfg e) → Q .non H'
theorem c_Draft_arrive (T : Txt K mg) : Con P w K mg base 2 (He.ma K (He.ga K "Draft") "arrive") ["self", "sender"] [] (spArrive K) := by
  refine con_of T.d_Draft_arrive rfl rfl sc_Draft_arrive (fun _ _ _ _ _ _ us hl => match us, hl with | [_, _], _ => rfl) (fun vs H Q E h => ?_) (fun cdv A outer s H vs Q E hr h => ?_)
  · obtain ⟨B, d, st, l, k, ip, vp, sc, cfg, e, rfl, _⟩ := h
    rfl
  · obtain ⟨B, d, st, l, k, ip, vp, sc, cfg, e, rfl, D, hS, hne, hb, q⟩ := h
    have nd := sc_Draft_arrive.nd
    obtain ⟨ddx, hd⟩ := D.ins
    obtain ⟨as, hv, hvA⟩ := D.way e
    obtain ⟨x, r, hxr⟩ : ∃ x r, sc.way e = x :: r := by
      cases h : sc.way e with
      | nil => exact absurd h hne
      | cons x r => exact ⟨x, r, rfl⟩
    rw [hxr] at hvA
    obtain ⟨a, as', rfl⟩ : ∃ a as', as = a :: as' := by
      cases as with
      | nil => have := hvA.len; simp at this
      | cons a as' => exact ⟨a, as', rfl⟩
    have hA := hvA.tail
    have hpair : H a = some (.tup [.int x.1, .int x.2]) := hA.1
    refine ⟨_, pss_cons (ps_asg (pe_bm PySem.F.plainAttrs_list PySem.F.slot_list_pop PySem.F.type_list_pop mt_popAt (pe_ix ix_list (pe_fld (pv 0) rfl) (pv 1) (fun _ _ => rfl)) (pa_cons pe_int pa_nil)) (pg_tup rfl (pgs_cons (gn 2 nd) (pgs_cons (gn 3 nd) pgs_nil))))
      (C8.pss_cut (ss 4 nd (pe_op op_sub pe_int (pv 1)))
      (pss_cons (ps_par (i := 5) (j := 6) rfl nd rfl rfl (by decide) rfl rfl (pa_cons (pe_ix ix_list (pe_fld (pv 0) rfl) (pv 4) (fun _ _ => rfl)) (pa_cons (pe_ix ix_tup (pe_fld (pe_fld (pv 0) rfl) rfl) (pv 4) (fun _ _ => rfl)) pa_nil)) rfl)
      (pss_cons (ps_fld (pv 5) (bi (call_max2 rfl) T.f_max (pa_cons (pe_fld (pv 5) rfl) (pa_cons (pv 3) pa_nil))) rfl)
      (C8.pss_cut (ps_if (PW.pt (pw_and (pt_cmpR op_gt (pe_fld (pv 5) rfl) pe_int (nomark _)) (pw_and (pt_not (pt_val (pe_fld (pv 5) rfl))) (pw_and1 (pt_val (meth_c (pv 5) T.c_Side T.t_Side_permits (c_Side_permits T) hr (pa_cons (pe_fld (pv 6) rfl) pa_nil)))))))
        (pss_one (ps_expr (meth_c (pv 0) T.c_Draft T.t_Draft_send (c_Draft_send T) hr (pa_cons (pv 4) (pa_cons (pe_fld (pv 5) rfl) pa_nil))))) pss_nil)
      (pss_cons (ps_if (pt_cmpR op_eq (pv 2) pe_int (nomark _)) (pss_one ps_retN) pss_nil)
      (pss_cons (ps_fldaug (pv 5) (pv 2) in_add)
      (pss_cons (ps_fldaug (pv 5) pe_int in_add)
      (pss_cons (ss 7 nd (pe_cmpR op_eq (pv 2) (pe_fld (pe_fld (pv 0) rfl) rfl) (nomark _)))
      (pss_cons (ps_fldaug (pv 5) (ty call_int1 T.f_int (pa_cons (pv 7) pa_nil)) in_add)
      (pss_one (ps_if (PW.pt (pw_or (pt_cmpR op_le (pe_fld (pv 5) rfl) (pe_fld (pv 6) rfl) (nomark _)) (pw_or1 (PW.pt (pw_and (pt_val (pv 7)) (pw_and1 (pt_cmpR op_eq (pe_fld (pv 5) rfl) (pe_fld (pv 6) rfl) (nomark _))))))))
        (pss_one (ps_expr (meth_c (pv 0) T.c_Draft T.t_Draft_send (c_Draft_send T) hr (pa_cons (pv 4) (pa_cons pe_int pa_nil))))) pss_nil))))))))))), ?_⟩
    have hpk : ∀ o, upd H (vp e) o a = some (.tup [.int x.1, .int x.2]) := fun o => by
      rw [upd_ne (ne_of hpair hv (by intro z; cases z))]
      exact hpair
    refine ⟨_, rfl, d, _, ddx, _, _, rfl, hd, T.c_Draft, T.n_Draft_ways, lk_Draft_ways, _, rfl, k, _, _, _, rfl, rfl, SqL.of D.ways, at_e e, .inl ⟨rfl, _, SqL.of hv⟩, vp e, _, 0, 0, .ref a, rfl, rfl, hv, by decide, by decide, ?_, rfl, ?_⟩
    · rw [List.length_map, List.length_cons]
      exact seq0 _
    rw [show ((a :: as').map V.ref).eraseIdx 0 = as'.map V.ref from rfl]
    refine ⟨a, _, rfl, SqT.of (hpk _), rfl, _, _, rfl, _, _, rfl, rfl, ?_⟩
    have D1 := D.setWay e hA.2
    generalize upd H (vp e) (.lst (as'.map V.ref)) = H1 at D1
    refine ⟨fun σ H' => σ = [some (.ref d), some (.int (eV e)), some (.int x.1), some (.int x.2), some (.int (eV !e)), none, none, none] ∧ H1 = H', ⟨_, rfl, _, _, rfl, rfl, by rw [eV_not]; kernel_rfl, rfl⟩, ?_⟩
    rintro _ _ ⟨rfl, rfl⟩
    obtain ⟨ddx1, hd1⟩ := D1.ins
    obtain ⟨dx, hi⟩ := D1.side (!e)
    rw [LW.put_side'] at hi
    have eA : sc.arrive cfg e = sc.put e (sc.side e) (recv cfg.size (cfg.pol !e).hold (cfg.pol !e).every (cfg.pol !e).quick (sc.side !e) (sc.way !e) x).1 r (recv cfg.size (cfg.pol !e).hold (cfg.pol !e).every (cfg.pol !e).quick (sc.side !e) (sc.way !e) x).2 := by
      unfold Scene.arrive
      rw [hxr]
    rw [eA] at q
    generalize hRe : sc.side (!e) = R at *
    generalize hWe : sc.way (!e) = W at *
    obtain ⟨sdx, tp, qp, ps, dp, a1, a2, a3, a4⟩ := hS.at_ (!e)
    generalize hpe : cfg.pol (!e) = pl at *
    have t1 := D1.same
    refine ⟨_, rfl, d, _, ddx1, _, _, rfl, hd1, T.c_Draft, T.n_Draft_sides, lk_Draft_sides, _, rfl, l, _, _, _, rfl, rfl, SqL.of D1.sides, at_e (!e), _, rfl, d, _, ddx1, _, _, rfl, hd1, T.c_Draft, T.n_Draft_setting, lk_Draft_setting, st, _, sdx, _, _, rfl, t1 _ _ a1, T.c_Setting, T.n_Setting_policies, lk_Setting_policies, _, rfl, tp, _, _, _, rfl, rfl, SqT.of (t1 _ _ a2), a3, _, _, rfl, ?_⟩
    refine ⟨_, rfl, ip (!e), _, dx, _, _, rfl, hi, T.c_Side, T.n_Side_covered, lk_Side_covered, _, rfl, _, _, rfl, _, rfl, ip (!e), _, dx, _, rfl, hi, T.c_Side, T.n_Side_covered, ln_Side, ?_⟩
    rw [pf_Side_covered, max_eq]
    have D2 := D1.setSide (!e) (dx := dx) (S := { R with covered := max R.covered x.2 }) ⟨_, hi⟩
    rw [flip_side] at D2
    have hi2 : (upd H1 (ip (!e)) (.ins (He.ga K "Side") dx (f_Side R.waiting R.corked R.out (max R.covered x.2) R.heard R.fulls R.arrived R.mark))) (ip (!e)) = some (.ins (He.ga K "Side") dx (fS { R with covered := max R.covered x.2 })) := upd_same
    generalize upd H1 (ip (!e)) (.ins (He.ga K "Side") dx (f_Side R.waiting R.corked R.out (max R.covered x.2) R.heard R.fulls R.arrived R.mark)) = H2 at D2 hi2
    obtain ⟨y, hy, eR⟩ : ∃ y : Side × Way, (if 0 < ({ R with covered := max R.covered x.2 } : Side).waiting ∧ ({ R with covered := max R.covered x.2 } : Side).corked = false ∧ ({ R with covered := max R.covered x.2 } : Side).permits pl.hold = true
        then (({ R with covered := max R.covered x.2 } : Side).sent cfg.size ({ R with covered := max R.covered x.2 } : Side).waiting, W ++ [(({ R with covered := max R.covered x.2 } : Side).waiting, ({ R with covered := max R.covered x.2 } : Side).heard)]) else (({ R with covered := max R.covered x.2 } : Side), W)) = y ∧
        recv cfg.size pl.hold pl.every pl.quick R W x = if x.1 = 0 then y else if ({ y.1 with heard := y.1.heard + x.1, arrived := y.1.arrived + 1, fulls := y.1.fulls + isF cfg.size x.1 } : Side).arrived ≤ pl.quick ∨ (x.1 = cfg.size ∧ ({ y.1 with heard := y.1.heard + x.1, arrived := y.1.arrived + 1, fulls := y.1.fulls + isF cfg.size x.1 } : Side).fulls = pl.every)
          then (({ y.1 with heard := y.1.heard + x.1, arrived := y.1.arrived + 1, fulls := y.1.fulls + isF cfg.size x.1 } : Side).sent cfg.size 0, y.2 ++ [(0, ({ y.1 with heard := y.1.heard + x.1, arrived := y.1.arrived + 1, fulls := y.1.fulls + isF cfg.size x.1 } : Side).heard)])
          else (({ y.1 with heard := y.1.heard + x.1, arrived := y.1.arrived + 1, fulls := y.1.fulls + isF cfg.size x.1 } : Side), y.2) := ⟨_, rfl, rfl⟩
    rw [eR] at q
    clear eR
    generalize ({ R with covered := max R.covered x.2 } : Side) = R1 at hy D2 hi2
    have ylen : y.2.length < 100000 := by
      rw [← hy]
      split
      · show (W ++ [_]).length < 100000
        rw [List.length_append]
        simp
        omega
      · show W.length < 100000
        omega
    obtain ⟨ddx2, hd2⟩ := D2.ins
    refine ⟨fun σ H' => σ = [some (.ref d), some (.int (eV e)), some (.int x.1), some (.int x.2), some (.int (eV !e)), some (.ref (ip !e)), some (.ref qp), none] ∧ DraftAt K B H' d st l k ip vp (sc.put e (sc.side e) y.1 r y.2), ?_, ?_⟩
    · refine ⟨_, rfl, ip (!e), _, dx, _, _, rfl, hi2, T.c_Side, T.n_Side_waiting, lk_Side_waiting, _, _, rfl, rfl, _, rfl, ?_⟩
      by_cases c1 : (0 : Int) < R1.waiting
      · refine iteD c1 ⟨_, rfl, ip (!e), _, dx, _, _, rfl, hi2, T.c_Side, T.n_Side_corked, lk_Side_corked, _, rfl, ?_⟩
        cases c2 : R1.corked with
        | true =>
          refine iteF (iteF ⟨rfl, ?_⟩)
          rw [if_neg (fun z => by rw [c2] at z; cases z.2.1)] at hy
          subst hy
          exact D2
        | false =>
          refine iteT ⟨_, rfl, ip (!e), dx, _, rfl, hi2, no_Side_permits, _, rfl, qp, _, dp, _, _, rfl, D2.same _ _ a4, T.c_Policy, T.n_Policy_hold, lk_Policy_hold, ip (!e), R1, pl.hold, rfl, ⟨dx, hi2⟩, _, rfl, ?_⟩
          cases c3 : R1.permits pl.hold with
          | false =>
            refine iteF ⟨rfl, ?_⟩
            rw [if_neg (fun z => by rw [c3] at z; cases z.2.2)] at hy
            subst hy
            exact D2
          | true =>
            rw [if_pos ⟨c1, c2, c3⟩] at hy
            subst hy
            refine iteT ⟨_, rfl, d, ddx2, _, rfl, hd2, no_Draft_send, _, rfl, _, rfl, ip (!e), _, dx, _, _, rfl, hi2, T.c_Side, T.n_Side_waiting, lk_Side_waiting, B, d, st, l, k, ip, vp, _, cfg, !e, R1.waiting, rfl, D2, hS, by rw [LW.put_way']; omega, fun H3 D3 => ?_⟩
            rw [flip_send] at D3
            exact ⟨rfl, D3⟩
      · refine iteDn c1 (iteF ⟨rfl, ?_⟩)
        rw [if_neg (fun z => c1 z.1)] at hy
        subst hy
        exact D2
    rintro _ H3 ⟨rfl, D3⟩
    refine ⟨_, rfl, rfl, _, rfl, ?_⟩
    by_cases h0 : x.1 = 0
    · rw [if_pos h0] at q
      exact iteD (congrArg V.int h0) (q H3 D3)
    rw [if_neg h0] at q
    refine iteDn (fun z => h0 (V.int.inj z)) ?_
    obtain ⟨ddx3, hd3⟩ := D3.ins
    obtain ⟨dx, hi⟩ := D3.side (!e)
    rw [LW.put_side'] at hi
    have hst : ∀ o, upd H3 (ip (!e)) o st = some (.ins (He.ga K "Setting") sdx (f_Setting cfg.size tp)) := fun o => same_put D3.same (D3.fi (!e)) _ _ a1
    have hdk : ∀ o, upd H3 (ip (!e)) o d = _ := fun o => (upd_ne (D3.nd (!e))).trans hd3
    refine ⟨_, rfl, ip (!e), _, dx, _, _, rfl, hi, T.c_Side, T.n_Side_heard, lk_Side_heard, _, rfl, _, _, rfl, rfl, dx, _, hi, ln_Side, ?_⟩
    rw [pf_Side_heard]
    refine ⟨_, rfl, ip (!e), _, dx, _, _, rfl, upd_same, T.c_Side, T.n_Side_arrived, lk_Side_arrived, _, _, rfl, rfl, dx, _, upd_same, ln_Side, ?_⟩
    rw [pf_Side_arrived, upd_upd]
    refine ⟨_, rfl, _, rfl, d, _, ddx3, _, _, rfl, hdk _, T.c_Draft, T.n_Draft_setting, lk_Draft_setting, st, _, sdx, _, _, rfl, hst _, T.c_Setting, T.n_Setting_size, lk_Setting_size, rfl, ?_⟩
    have ef : decide (V.int x.1 = V.int cfg.size) = decide (x.1 = cfg.size) := decide_eq_decide.mpr ⟨V.int.inj, congrArg V.int⟩
    rw [ef]
    refine ⟨_, rfl, ip (!e), _, dx, _, _, rfl, upd_same, T.c_Side, T.n_Side_fulls, lk_Side_fulls, _, rfl, .inr ⟨_, rfl, _, _, rfl, rfl, dx, _, upd_same, ln_Side, ?_⟩⟩
    rw [pf_Side_fulls, upd_upd]
    have eF : (if decide (x.1 = cfg.size) = true then (1 : Int) else 0) = isF cfg.size x.1 := by
      unfold isF
      by_cases h : x.1 = cfg.size
      · rw [if_pos h, decide_eq_true h, if_pos rfl]
      · rw [if_neg h, decide_eq_false h, if_neg (by decide)]
    rw [eF]
    have D4 := D3.setSide (!e) (dx := dx) (S := { y.1 with heard := y.1.heard + x.1, arrived := y.1.arrived + 1, fulls := y.1.fulls + isF cfg.size x.1 }) ⟨_, hi⟩
    rw [flip_side] at D4
    have hi4 : (upd H3 (ip (!e)) (.ins (He.ga K "Side") dx (f_Side y.1.waiting y.1.corked y.1.out y.1.covered (y.1.heard + x.1) (y.1.fulls + isF cfg.size x.1) (y.1.arrived + 1) y.1.mark))) (ip (!e)) = some (.ins (He.ga K "Side") dx (fS { y.1 with heard := y.1.heard + x.1, arrived := y.1.arrived + 1, fulls := y.1.fulls + isF cfg.size x.1 })) := upd_same
    generalize upd H3 (ip (!e)) (.ins (He.ga K "Side") dx (f_Side y.1.waiting y.1.corked y.1.out y.1.covered (y.1.heard + x.1) (y.1.fulls + isF cfg.size x.1) (y.1.arrived + 1) y.1.mark)) = H4 at D4 hi4
    generalize ({ y.1 with heard := y.1.heard + x.1, arrived := y.1.arrived + 1, fulls := y.1.fulls + isF cfg.size x.1 } : Side) = R3 at q D4 hi4
    obtain ⟨ddx4, hd4⟩ := D4.ins
    have snd : (R3.arrived ≤ pl.quick ∨ (x.1 = cfg.size ∧ R3.fulls = pl.every)) → ∀ H5, DraftAt K B H5 d st l k ip vp (sendS cfg (sc.put e (sc.side e) R3 r y.2) (!e) 0) → Q .non H5 := by
      intro c H5 D5
      rw [if_pos c] at q
      rw [flip_send] at D5
      exact q H5 D5
    refine ⟨_, rfl, ip (!e), _, dx, _, _, rfl, hi4, T.c_Side, T.n_Side_arrived, lk_Side_arrived, _, rfl, qp, _, dp, _, _, rfl, D4.same _ _ a4, T.c_Policy, T.n_Policy_quick, lk_Policy_quick, _, _, rfl, rfl, _, rfl, ?_⟩
    by_cases c1 : R3.arrived ≤ pl.quick
    · refine iteD c1 (iteT ?_)
      exact ⟨_, rfl, d, ddx4, _, rfl, hd4, no_Draft_send, _, rfl, B, d, st, l, k, ip, vp, _, cfg, !e, 0, rfl, D4, hS, by rw [LW.put_way']; exact ylen, fun H5 D5 => snd (Or.inl c1) H5 D5⟩
    · refine iteDn c1 ⟨_, rfl, _, rfl, ?_⟩
      by_cases c2 : x.1 = cfg.size
      · rw [decide_eq_true c2]
        refine iteT ⟨_, rfl, ip (!e), _, dx, _, _, rfl, hi4, T.c_Side, T.n_Side_fulls, lk_Side_fulls, _, rfl, qp, _, dp, _, _, rfl, D4.same _ _ a4, T.c_Policy, T.n_Policy_every, lk_Policy_every, rfl, _, rfl, ?_⟩
        by_cases c3 : R3.fulls = pl.every
        · refine iteD (congrArg V.int c3) ?_
          exact ⟨_, rfl, d, ddx4, _, rfl, hd4, no_Draft_send, _, rfl, B, d, st, l, k, ip, vp, _, cfg, !e, 0, rfl, D4, hS, by rw [LW.put_way']; exact ylen, fun H5 D5 => snd (Or.inr ⟨c2, c3⟩) H5 D5⟩
        · rw [if_neg (fun z => z.elim c1 (fun z => c3 z.2))] at q
          exact iteDn (fun z => c3 (V.int.inj z)) (q H4 D4)
      · rw [decide_eq_false c2]
        rw [if_neg (fun z => z.elim c1 (fun z => c2 z.1))] at q
        exact iteF (iteF (q H4 D4))
end
end Lw

namespace Lw
open PySem PySem.Spec PyProof.Rows L2
open LW (Hold Mode Pol Cfg Write Side Scene Parts Way Rule fullN wrC recv isF)
section
variable {P : Program} {w : World} {K : PySem.W.Frag} {mg : Str → Option Value} {base : Heap}
def spFire (K : PySem.W.Frag) : Sp := fun vs H Q _ => ∃ (B : Hp) (d st l k : Addr) (ip vp : Bool → Addr) (sc : Scene) (cfg : Cfg) (e : Bool), vs = [.ref d, .int (eV e)] ∧ DraftAt K B H d st l k ip vp sc ∧ SetAt K B st cfg ∧ (∀ b, (sc.way b).length < 90000) ∧
  ∀ (H' : Hp), DraftAt K B H' d st l k ip vp (sc.fire cfg e) → Q .non H'
theorem c_Draft_fire (T : Txt K mg) : Con P w K mg base 2 (He.ma K (He.ga K "Draft") "fire") ["self", "speaker"] [] (spFire K) := by
  refine con_of T.d_Draft_fire rfl rfl sc_Draft_fire (fun _ _ _ _ _ _ us hl => match us, hl with | [_, _], _ => rfl) (fun vs H Q E h => ?_) (fun cdv A outer s H vs Q E hr h => ?_)
  · obtain ⟨B, d, st, l, k, ip, vp, sc, cfg, e, rfl, _⟩ := h
    rfl
  · obtain ⟨B, d, st, l, k, ip, vp, sc, cfg, e, rfl, D, hS, hb, q⟩ := h
    have nd := sc_Draft_fire.nd
    obtain ⟨ddx, hd⟩ := D.ins
    refine ⟨_, pss_cons (ps_fldaug (pv 0) pe_int in_add)
      (pss_one (ps_if (pt_val (pe_fld (pe_ix ix_list (pe_fld (pv 0) rfl) (pv 1) (fun _ _ => rfl)) rfl))
        (pss_one (ps_expr (meth_c (pv 0) T.c_Draft T.t_Draft_send (c_Draft_send T) hr (pa_cons (pv 1) (pa_cons (pe_fld (pe_ix ix_list (pe_fld (pv 0) rfl) (pv 1) (fun _ _ => rfl)) rfl) pa_nil)))))
        (pss_one (ps_expr (meth_c (pv 0) T.c_Draft T.t_Draft_send (c_Draft_send T) hr (pa_cons (pe_op op_sub pe_int (pv 1)) (pa_cons pe_int pa_nil))))))), ?_⟩
    refine ⟨_, rfl, d, _, ddx, _, _, rfl, hd, T.c_Draft, T.n_Draft_stalls, lk_Draft_stalls, _, _, rfl, rfl, ddx, _, hd, ln_Draft, ?_⟩
    rw [pf_Draft_stalls]
    have D1 := D.setNum (dx := ddx) sc.made (sc.stalls + 1)
    have hd1 : (upd H d (.ins (He.ga K "Draft") ddx (f_Draft st (sc.made : Nat) (sc.stalls + 1) l k))) d = some (.ins (He.ga K "Draft") ddx (f_Draft st (sc.made : Nat) (sc.stalls + 1) l k)) := upd_same
    generalize upd H d (.ins (He.ga K "Draft") ddx (f_Draft st (sc.made : Nat) (sc.stalls + 1) l k)) = H1 at D1 hd1
    obtain ⟨dx, hi⟩ := D1.side e
    have es : ∀ b, ({ sc with made := sc.made, stalls := sc.stalls + 1 } : Scene).side b = sc.side b := fun b => by cases b <;> rfl
    have ew : ∀ b, ({ sc with made := sc.made, stalls := sc.stalls + 1 } : Scene).way b = sc.way b := fun b => by cases b <;> rfl
    rw [es] at hi
    refine ⟨_, rfl, d, _, ddx, _, _, rfl, hd1, T.c_Draft, T.n_Draft_sides, lk_Draft_sides, _, rfl, l, _, _, _, rfl, rfl, SqL.of D1.sides, at_e e, ip e, _, dx, _, _, rfl, hi, T.c_Side, T.n_Side_corked, lk_Side_corked, _, rfl, ?_⟩
    cases hc : (sc.side e).corked with
    | true =>
      refine iteT ⟨_, rfl, d, ddx, _, rfl, hd1, no_Draft_send, _, rfl, _, rfl, d, _, ddx, _, _, rfl, hd1, T.c_Draft, T.n_Draft_sides, lk_Draft_sides, _, rfl, l, _, _, _, rfl, rfl, SqL.of D1.sides, at_e e, ip e, _, dx, _, _, rfl, hi, T.c_Side, T.n_Side_waiting, lk_Side_waiting,
        B, d, st, l, k, ip, vp, _, cfg, e, (sc.side e).waiting, rfl, D1, hS, by rw [ew]; have := hb e; omega, fun H2 D2 => q H2 ?_⟩
      have : sc.fire cfg e = sendS cfg { sc with made := sc.made, stalls := sc.stalls + 1 } e (sc.side e).waiting := by
        unfold Scene.fire
        rw [if_pos hc]
        cases e <;> rfl
      rw [this]
      exact D2
    | false =>
      refine iteF ⟨_, rfl, d, ddx, _, rfl, hd1, no_Draft_send, _, rfl, _, _, rfl, rfl, B, d, st, l, k, ip, vp, _, cfg, !e, 0, by rw [eV_not]; rfl, D1, hS, by rw [ew]; have := hb (!e); omega, fun H2 D2 => q H2 ?_⟩
      have : sc.fire cfg e = sendS cfg { sc with made := sc.made, stalls := sc.stalls + 1 } (!e) 0 := by
        unfold Scene.fire
        rw [if_neg (by rw [hc]; decide)]
        cases e <;> rfl
      rw [this]
      exact D2
/-- the packed sides so far -/
def PackS (H : Hp) (sc : Scene) (D : Addr) : Nat → Prop
  | 0 => H D = some (.lst [])
  | 1 => ∃ a, H D = some (.lst [.ref a]) ∧ SideT H a (sc.side false)
  | _ => ∃ a b, H D = some (.lst [.ref a, .ref b]) ∧ SideT H a (sc.side false) ∧ SideT H b (sc.side true)
def PackW (H : Hp) (sc : Scene) (D : Addr) : Nat → Prop
  | 0 => H D = some (.lst [])
  | 1 => ∃ a, H D = some (.lst [.ref a]) ∧ WayT H a (sc.way false)
  | _ => ∃ a b, H D = some (.lst [.ref a, .ref b]) ∧ WayT H a (sc.way false) ∧ WayT H b (sc.way true)
def spDraftPacked (K : PySem.W.Frag) : Sp := fun vs H Q _ => ∃ (B : Hp) (d st l k : Addr) (ip vp : Bool → Addr) (sc : Scene), vs = [.ref d] ∧ DraftAt K B H d st l k ip vp sc ∧ ∀ (t : Addr) (H' : Hp), Same B H' → SceneAt H' t sc → Q (.ref t) H'
theorem c_Draft_packed (T : Txt K mg) : Con P w K mg base 2 (He.ma K (He.ga K "Draft") "packed") ["self"] [] (spDraftPacked K) := by
  refine con_of T.d_Draft_packed rfl rfl sc_Draft_packed (fun _ _ _ _ _ _ us hl => match us, hl with | [_], _ => rfl) (fun vs H Q E h => ?_) (fun cdv A outer s H vs Q E hr h => ?_)
  · obtain ⟨B, d, st, l, k, ip, vp, sc, rfl, _⟩ := h
    rfl
  · obtain ⟨B, d, st, l, k, ip, vp, sc, rfl, D, q⟩ := h
    have nd := sc_Draft_packed.nd
    obtain ⟨ddx, hd⟩ := D.ins
    refine ⟨_, pss_cons (ss 1 nd (ty call_tuple_of T.f_tuple (pa_cons (pe_lc (own := [("side", 2)]) (g := gName 2) (tt := tYes) (te := tMeth (He.ga K "Side") "packed" (spSidePacked K) [] E0 (tVar 2) tNil) rfl nd
          (pi_list (pe_fld (pv 0) rfl)) (blkOk_by (N := N_Draft_packed) (sc := defScope st_Draft_packed) (by decide +kernel)) (fun _ _ _ _ _ => gn 2 nd) (fun _ _ _ _ _ => pts_nil)
          (fun _ _ _ _ _ => meth_c0 (pv 2) T.c_Side T.t_Side_packed (c_Side_packed T) hr)) pa_nil)))
      (pss_one (ps_ret (pe_tup (pa_cons (pe_fld (pv 0) rfl) (pa_cons (pe_fld (pv 0) rfl) (pa_cons (pv 1) (pa_cons (ty call_tuple_of T.f_tuple (pa_cons (pe_lc (own := [("way", 3)]) (g := gName 3) (tt := tYes)
          (te := tCB (fun xs H Q => ∃ p ys, xs = [.ref p] ∧ ((SqL K H p ys ∧ ∀ l, H l = none → Q (.ref l) (upd H l (.tup ys))) ∨ (SqT K H p ys ∧ Q (.ref p) H))) (tCons (tVar 3) tNil)) rfl nd
          (pi_list (pe_fld (pv 0) rfl)) (blkOk_by (N := N_Draft_packed) (sc := defScope st_Draft_packed) (by decide +kernel)) (fun _ _ _ _ _ => gn 3 nd) (fun _ _ _ _ _ => pts_nil)
          (fun _ _ _ _ _ => ty call_tuple_of T.f_tuple (pa_cons (pv 3) pa_nil))) pa_nil)) pa_nil))))))), ?_⟩
    refine ⟨_, rfl, d, _, ddx, _, _, rfl, hd, T.c_Draft, T.n_Draft_sides, lk_Draft_sides, l, rfl, ⟨_, SqL.of D.sides⟩, fun Dl hDl => ?_⟩
    refine lc_list (K := K) (xs := [.ref (ip false), .ref (ip true)]) (fun i H' => Same H H' ∧ PackS H' sc Dl i) ⟨same_new (Same.refl _) hDl, upd_same⟩ (fun i H' _ z => SqL.of (z.1 _ _ D.sides)) (fun i y H' hi z => ?_) (fun H' z => ?_)
    · obtain ⟨s4, hN⟩ := z
      refine ⟨rfl, ?_⟩
      refine iteT (B := False) ?_
      have step : ∀ (e : Bool) (acc : List V), H' Dl = some (.lst acc) → acc.length < sizeLine → y = .ref (ip e) → (∀ (a : Addr) (H5 : Hp), KT2 H' H5 → H5 Dl = some (.lst (acc ++ [.ref a])) → SideT H5 a (sc.side e) → PackS H5 sc Dl (i + 1)) →
          tMeth (He.ga K "Side") "packed" (spSidePacked K) [] E0 (tVar 2) tNil [some (.ref d), none, some y, none] H' fun y H4 => ∃ acc, H4 Dl = some (.lst acc) ∧ acc.length < sizeLine ∧ (Same H (upd H4 Dl (.lst (acc ++ [y]))) ∧ PackS (upd H4 Dl (.lst (acc ++ [y]))) sc Dl (i + 1)) := by
        intro e acc hacc hlen hy hk
        subst hy
        obtain ⟨dx, hi⟩ := D.side e
        refine ⟨_, rfl, ip e, dx, _, rfl, s4 _ _ hi, no_Side_packed, ip e, sc.side e, rfl, ⟨dx, s4 _ _ hi⟩, fun t ht => ?_⟩
        have nDa : Dl ≠ t := ne_of_none hacc ht
        refine ⟨acc, upd_new ht hacc, hlen, same_put (same_new s4 ht) hDl, hk t _ ⟨fun b xs hb => ?_⟩ upd_same ?_⟩
        · rw [upd_ne (ne_of hb hacc (by intro z; cases z))]
          exact upd_new ht hb
        · show upd _ _ _ t = _
          rw [upd_ne nDa.symm, upd_same]
      match i, hi, hN with
      | 0, hi, hN => exact step false [] hN (by show 0 < sizeLine; decide) (Option.some.inj hi).symm fun a H5 kt h5 si => ⟨a, h5, si⟩
      | 1, hi, hN =>
        obtain ⟨a0, h0, si0⟩ := hN
        exact step true [.ref a0] h0 (by show 1 < sizeLine; decide) (Option.some.inj hi).symm fun a H5 kt h5 si => ⟨a0, a, h5, si0.kt kt, si⟩
      | n + 2, hi, hN => cases hi
    · obtain ⟨s4, a0, a1, hl4, si0, si1⟩ := z
      refine ⟨Dl, _, rfl, .inl ⟨SqL.of hl4, fun ts hts => ?_⟩⟩
      have s5 := same_new s4 hts (o := .tup [.ref a0, .ref a1])
      have k5 : KT2 H' (upd H' ts (.tup [.ref a0, .ref a1])) := KT2.of (same_new (Same.refl _) hts)
      have hts5 : (upd H' ts (.tup [.ref a0, .ref a1])) ts = some (.tup [.ref a0, .ref a1]) := upd_same
      have si05 := si0.kt k5
      have si15 := si1.kt k5
      generalize upd H' ts (.tup [.ref a0, .ref a1]) = H5 at s5 k5 hts5 si05 si15
      have hd5 := s5 _ _ hd
      refine ⟨_, rfl, d, _, ddx, _, _, rfl, hd5, T.c_Draft, T.n_Draft_made, lk_Draft_made, _, rfl, d, _, ddx, _, _, rfl, hd5, T.c_Draft, T.n_Draft_stalls, lk_Draft_stalls, _, rfl, _, rfl, d, _, ddx, _, _, rfl, hd5, T.c_Draft, T.n_Draft_ways, lk_Draft_ways, k, rfl, ⟨_, SqL.of (s5 _ _ D.ways)⟩, fun D2 hD2 => ?_⟩
      refine lc_list (K := K) (xs := [.ref (vp false), .ref (vp true)]) (fun i H' => Same H5 H' ∧ PackW H' sc D2 i) ⟨same_new (Same.refl _) hD2, upd_same⟩ (fun i H' _ z => SqL.of (z.1 _ _ (s5 _ _ D.ways))) (fun i y H' hi z => ?_) (fun H' z => ?_)
      · obtain ⟨s6, hN⟩ := z
        refine ⟨rfl, ?_⟩
        refine iteT (B := False) ?_
        have step : ∀ (e : Bool) (acc : List V), H' D2 = some (.lst acc) → acc.length < sizeLine → y = .ref (vp e) → (∀ (a : Addr) (H7 : Hp), KT2 H' H7 → H7 D2 = some (.lst (acc ++ [.ref a])) → WayT H7 a (sc.way e) → PackW H7 sc D2 (i + 1)) →
            tCB (fun xs H Q => ∃ p ys, xs = [.ref p] ∧ ((SqL K H p ys ∧ ∀ l, H l = none → Q (.ref l) (upd H l (.tup ys))) ∨ (SqT K H p ys ∧ Q (.ref p) H))) (tCons (tVar 3) tNil) [some (.ref d), some (.ref ts), none, some y] H' fun y H4 => ∃ acc, H4 D2 = some (.lst acc) ∧ acc.length < sizeLine ∧ (Same H5 (upd H4 D2 (.lst (acc ++ [y]))) ∧ PackW (upd H4 D2 (.lst (acc ++ [y]))) sc D2 (i + 1)) := by
          intro e acc hacc hlen hy hk
          subst hy
          obtain ⟨as, w1, w2⟩ := D.way e
          refine ⟨_, rfl, vp e, _, rfl, .inl ⟨SqL.of (s6 _ _ (s5 _ _ w1)), fun t ht => ?_⟩⟩
          have nDa : D2 ≠ t := ne_of_none hacc ht
          have sk := same_put (same_new s6 ht (o := .tup (as.map V.ref))) hD2 (o := .lst (acc ++ [.ref t]))
          refine ⟨acc, upd_new ht hacc, hlen, sk, hk t _ ⟨fun b xs hb => ?_⟩ upd_same ⟨as, ?_, w2.mono fun _ _ q => sk _ _ (s5 _ _ q)⟩⟩
          · rw [upd_ne (ne_of hb hacc (by intro z; cases z))]
            exact upd_new ht hb
          · rw [upd_ne nDa.symm, upd_same]
        match i, hi, hN with
        | 0, hi, hN => exact step false [] hN (by show 0 < sizeLine; decide) (Option.some.inj hi).symm fun a H7 kt h7 wl => ⟨a, h7, wl⟩
        | 1, hi, hN =>
          obtain ⟨a0, h0, wl0⟩ := hN
          exact step true [.ref a0] h0 (by show 1 < sizeLine; decide) (Option.some.inj hi).symm fun a H7 kt h7 wl => ⟨a0, a, h7, wl0.kt kt, wl⟩
        | n + 2, hi, hN => cases hi
      · obtain ⟨s6, v0, v1, hk6, wl0, wl1⟩ := z
        refine ⟨D2, _, rfl, .inl ⟨SqL.of hk6, fun tw htw => ⟨(by show 4 ≤ sizeLine; decide), fun t ht => ?_⟩⟩⟩
        have sk := same_new (same_new (Same.refl H') htw (o := .tup [.ref v0, .ref v1])) ht (o := .tup [.int (sc.made : Nat), .int sc.stalls, .ref ts, .ref tw])
        refine q t _ (D.same.trans (s5.trans (s6.trans sk))) ⟨ts, tw, bsel a0 a1, bsel v0 v1, upd_same, sk _ _ (s6 _ _ hts5), upd_new ht upd_same, fun e => ?_, fun e => ?_⟩
        · cases e
          · exact sk _ _ (s6 _ _ si05)
          · exact sk _ _ (s6 _ _ si15)
        · cases e
          · exact wl0.kt (KT2.of sk)
          · exact wl1.kt (KT2.of sk)
end
end Lw

namespace Lw
open PySem PySem.Spec PyProof.Rows L2
open LW (Hold Mode Pol Cfg Write Side Scene Parts Way Rule Ev G heardAll finished possible canWrite scene0 side0)
theorem walk_zipT {K : PySem.W.Frag} {a b : Addr} {xs ys : List V} {n : Nat} (h1 : n = xs.length) (h2 : n = ys.length) : Walk (RZ.ItzT K a b) n (fun H => SqT K H a xs ∧ SqT K H b ys) (YPair (fun i => xs[i]?) (fun i => ys[i]?)) := by
  refine ⟨fun i H hi q => ⟨xs, ys, xs[i], ys[i], q.1, q.2, by simp, by simp⟩, fun H q => ⟨xs, ys, q.1, q.2, Or.inl (by omega)⟩, fun i H v H' _ q y => ?_⟩
  obtain ⟨T, x, y, h1, h2, h3, h4, h5⟩ := y
  exact ⟨T, x, y, h1, h2, h3, h4 xs q.1, h5 ys q.2⟩
/-! ### ways as data -/
def pD2 (x : Int × Int) : PyData := .tuple [.int x.1, .int x.2]
def wD (W : Way) : PyData := .tuple (W.map pD2)
theorem PairT.dp {K : PySem.W.Frag} {H : Hp} {a : Addr} {x : Int × Int} (h : PairT H a x) : Dp K H (.ref a) (pD2 x) := .tup (SqT.of h) (.cons (.int _) (.cons (.int _) .nil))
theorem WayT.dp {K : PySem.W.Frag} {H : Hp} {a : Addr} {W : Way} (h : WayT H a W) : Dp K H (.ref a) (wD W) := by
  obtain ⟨as, h1, h2⟩ := h
  exact .tup (SqT.of h1) (dpAll_of (fun a x h => PairT.dp h) h2)
theorem pD2_lay : ∀ W : Way, PyData.canLayAll0 (W.map pD2) = true ∧ PyData.depthAll (W.map pD2) ≤ 1
  | [] => ⟨rfl, Nat.zero_le _⟩
  | t :: ts => by
    obtain ⟨h1, h2⟩ := pD2_lay ts
    refine ⟨?_, ?_⟩
    · show (PyData.canLay0 (pD2 t) && PyData.canLayAll0 (ts.map pD2)) = true
      rw [h1]
      rfl
    · show max (PyData.depth (pD2 t)) (PyData.depthAll (ts.map pD2)) ≤ 1
      have : PyData.depth (pD2 t) = 1 := rfl
      omega
theorem wD_shaped (W : Way) : SeqAt.shaped (wD W) = true := by
  obtain ⟨h1, h2⟩ := pD2_lay W
  unfold SeqAt.shaped
  have e1 : PyData.canLay0 (wD W) = true := h1
  have e2 : PyData.depth (wD W) ≤ 64 := by
    show PyData.depthAll (W.map pD2) + 1 ≤ 64
    omega
  rw [e1, decide_eq_true e2]
  rfl
theorem wD_nil (W : Way) : PyData.eqv (wD W) (.tuple []) = W.isEmpty := by
  cases W with
  | nil => rfl
  | cons d ds => rfl
/-! ### the rules' instance -/
def GivenAt (H : Hp) (a : Addr) (ws : List Write) : Prop := ∃ as : List Addr, H a = some (.lst (as.map V.ref)) ∧ All2 (PairT H) as ((List.range (ws.length + 1)).map fun m => (G ws m false, G ws m true))
def RulesAt (K : PySem.W.Frag) (H : Hp) (r st : Addr) (ws : List Write) : Prop := ∃ dx wl gl, H r = some (.ins (He.ga K "Rules") dx (f_Rules st wl gl)) ∧ ConvAt H wl ws ∧ GivenAt H gl ws
theorem GivenAt.mono {H H' : Hp} {a : Addr} {ws : List Write} (h : GivenAt H a ws) (s : Same H H') : GivenAt H' a ws := by
  obtain ⟨as, h1, h2⟩ := h
  exact ⟨as, s _ _ h1, h2.mono fun _ _ q => s _ _ q⟩
theorem RulesAt.mono {K : PySem.W.Frag} {H H' : Hp} {r st : Addr} {ws : List Write} (h : RulesAt K H r st ws) (s : Same H H') : RulesAt K H' r st ws := by
  obtain ⟨dx, wl, gl, h1, h2, h3⟩ := h
  exact ⟨dx, wl, gl, s _ _ h1, h2.mono s, h3.mono s⟩
theorem GivenAt.at_ {H : Hp} {a : Addr} {ws : List Write} (h : GivenAt H a ws) {m : Nat} (hm : m ≤ ws.length) (e : Bool) : ∃ vs p ps, H a = some (.lst vs) ∧ atI vs (m : Nat) = some (.ref p) ∧ H p = some (.tup ps) ∧ atI ps (eV e) = some (.int (G ws m e)) := by
  obtain ⟨as, h1, h2⟩ := h
  have e1 : ((List.range (ws.length + 1)).map fun m => (G ws m false, G ws m true))[m]? = some (G ws m false, G ws m true) := by
    rw [List.getElem?_map, List.getElem?_range (by omega)]
    rfl
  obtain ⟨p, hp, hP⟩ := h2.get e1
  refine ⟨_, p, _, h1, atI_nat (j := m) ?_, hP, ?_⟩
  · rw [List.getElem?_map, hp]
    rfl
  · cases e
    · exact atI_nat (j := 0) rfl
    · exact atI_nat (j := 1) rfl
section
variable {P : Program} {w : World} {K : PySem.W.Frag} {mg : Str → Option Value} {base : Heap}
def spFirst (K : PySem.W.Frag) : Sp := fun vs H Q _ => ∃ (r dx : Addr) (fs : List (Str × V)), vs = [.ref r] ∧ ∀ (t : Addr) (H' : Hp), Same H H' → SceneAt H' t scene0 → Q (.ref t) H'
theorem c_Rules_first (T : Txt K mg) : Con P w K mg base 1 (He.ma K (He.ga K "Rules") "first") ["self"] [] (spFirst K) := by
  refine con_of T.d_Rules_first rfl rfl sc_Rules_first (fun _ _ _ _ _ _ us hl => match us, hl with | [_], _ => rfl) (fun vs H Q E h => ?_) (fun cdv A outer s H vs Q E hr h => ?_)
  · obtain ⟨r, dx, fs, rfl, _⟩ := h
    rfl
  · obtain ⟨r, dx, fs, rfl, q⟩ := h
    have nd := sc_Rules_first.nd
    refine ⟨_, pss_cons (ss 1 nd (pe_tup (pa_cons pe_int (pa_cons pe_bl (pa_cons pe_int (pa_cons pe_int (pa_cons pe_int (pa_cons pe_int (pa_cons pe_int (pa_cons pe_int pa_nil))))))))))
      (pss_one (ps_ret (pe_tup (pa_cons pe_int (pa_cons pe_int (pa_cons (pe_tup (pa_cons (pv 1) (pa_cons (pv 1) pa_nil))) (pa_cons (pe_tup (pa_cons (pe_tup pa_nil) (pa_cons (pe_tup pa_nil) pa_nil))) pa_nil))))))), ?_⟩
    refine ⟨(by show 8 ≤ sizeLine; decide), fun s1 h1 => ⟨_, rfl, _, rfl, (by show 2 ≤ sizeLine; decide), fun s2 h2 => ⟨Nat.zero_le _, fun s3 h3 => ⟨Nat.zero_le _, fun s4 h4 => ⟨(by show 2 ≤ sizeLine; decide), fun s5 h5 => ⟨(by show 4 ≤ sizeLine; decide), fun t ht => ?_⟩⟩⟩⟩⟩⟩
    have k1 := same_new (Same.refl H) h1 (o := .tup [.int 0, .bl false, .int 0, .int 0, .int 0, .int 0, .int 0, .int 0])
    have e1 : (upd H s1 (.tup [.int 0, .bl false, .int 0, .int 0, .int 0, .int 0, .int 0, .int 0])) s1 = some _ := upd_same
    have k2 := same_new (Same.refl _) h2 (o := .tup [.ref s1, .ref s1])
    have k3 := same_new (Same.refl _) h3 (o := .tup [])
    have k4 := same_new (Same.refl _) h4 (o := .tup [])
    have k5 := same_new (Same.refl _) h5 (o := .tup [.ref s3, .ref s4])
    have k6 := same_new (Same.refl _) ht (o := .tup [.int 0, .int 0, .ref s2, .ref s5])
    have sd : SideT (upd (upd (upd (upd (upd (upd H s1 (.tup [.int 0, .bl false, .int 0, .int 0, .int 0, .int 0, .int 0, .int 0])) s2 (.tup [.ref s1, .ref s1])) s3 (.tup [])) s4 (.tup [])) s5 (.tup [.ref s3, .ref s4])) t (.tup [.int 0, .int 0, .ref s2, .ref s5])) s1 side0 :=
      k6 _ _ (k5 _ _ (k4 _ _ (k3 _ _ (k2 _ _ upd_same))))
    refine q t _ (k1.trans (k2.trans (k3.trans (k4.trans (k5.trans k6))))) ⟨s2, s5, fun _ => s1, bsel s3 s4, upd_same, k6 _ _ (k5 _ _ (k4 _ _ (k3 _ _ upd_same))), k6 _ _ upd_same, fun e => ?_, fun e => ?_⟩
    · cases e
      · exact sd
      · exact sd
    · cases e
      · exact ⟨[], k6 _ _ (k5 _ _ (k4 _ _ upd_same)), All2.nil⟩
      · exact ⟨[], k6 _ _ (k5 _ _ upd_same), All2.nil⟩
def spHeard (K : PySem.W.Frag) : Sp := fun vs H Q _ => ∃ (r st t : Addr) (ws : List Write) (sc : Scene) (e : Bool), vs = [.ref r, .ref t, .int (eV e)] ∧ RulesAt K H r st ws ∧ SceneAt H t sc ∧ sc.made ≤ ws.length ∧ Q (.bl (heardAll ws sc e)) H
theorem c_Rules_heard (T : Txt K mg) : Con P w K mg base 1 (He.ma K (He.ga K "Rules") "heard_all") ["self", "scene", "endpoint"] [] (spHeard K) := by
  refine con_of T.d_Rules_heard_all rfl rfl sc_Rules_heard_all (fun _ _ _ _ _ _ us hl => match us, hl with | [_, _, _], _ => rfl) (fun vs H Q E h => ?_) (fun cdv A outer s H vs Q E hr h => ?_)
  · obtain ⟨r, st, t, ws, sc, e, rfl, _⟩ := h
    rfl
  · obtain ⟨r, st, t, ws, sc, e, rfl, ⟨dx, wl, gl, hr', hW, hG⟩, ⟨sa, wa, sp, wp, I⟩, hm, q⟩ := h
    obtain ⟨vs, p, ps, g1, g2, g3, g4⟩ := hG.at_ hm (!e)
    rw [eV_not] at g4
    refine ⟨_, pss_one (ps_ret (pe_cmpR op_eq (pe_ix ix_tup (pe_ix ix_tup (pe_ix ix_tup (pv 1) pe_int (fun _ _ => rfl)) (pv 2) (fun _ _ => rfl)) pe_int (fun _ _ => rfl))
      (pe_ix ix_tup (pe_ix ix_list (pe_fld (pv 0) rfl) (pe_ix ix_tup (pv 1) pe_int (fun _ _ => rfl)) (fun _ _ => rfl)) (pe_op op_sub pe_int (pv 2)) (fun _ _ => rfl)) (nomark _))), ?_⟩
    refine ⟨_, rfl, t, _, 2, _, rfl, rfl, SqT.of I.top, atI_nat (j := 2) rfl, _, rfl, sa, _, _, _, rfl, rfl, SqT.of I.sides, at_e e, sp e, _, 4, _, rfl, rfl, SqT.of (I.side e), atI_nat (j := 4) rfl, ?_⟩
    refine ⟨_, rfl, r, _, dx, _, _, rfl, hr', T.c_Rules, T.n_Rules_given, lk_Rules_given, _, rfl, t, _, 0, _, rfl, rfl, SqT.of I.top, atI_nat (j := 0) rfl, gl, _, _, _, rfl, rfl, SqL.of g1, g2, _, rfl, _, _, rfl, rfl, p, _, _, _, rfl, rfl, SqT.of g3, g4, rfl, ?_⟩
    have ed : decide (V.int (sc.side e).heard = V.int (G ws sc.made !e)) = heardAll ws sc e := decide_eq_decide.mpr ⟨V.int.inj, congrArg V.int⟩
    rw [ed]
    exact q
def spFinished (K : PySem.W.Frag) : Sp := fun vs H Q _ => ∃ (r st t : Addr) (ws : List Write) (sc : Scene), vs = [.ref r, .ref t] ∧ RulesAt K H r st ws ∧ SceneAt H t sc ∧ sc.made ≤ ws.length ∧ Q (.bl (finished ws sc)) H
theorem c_Rules_finished (T : Txt K mg) : Con P w K mg base 2 (He.ma K (He.ga K "Rules") "finished") ["self", "scene"] [] (spFinished K) := by
  refine con_of T.d_Rules_finished rfl rfl sc_Rules_finished (fun _ _ _ _ _ _ us hl => match us, hl with | [_, _], _ => rfl) (fun vs H Q E h => ?_) (fun cdv A outer s H vs Q E hr h => ?_)
  · obtain ⟨r, st, t, ws, sc, rfl, _⟩ := h
    rfl
  · obtain ⟨r, st, t, ws, sc, rfl, R, S, hm, q⟩ := h
    obtain ⟨dx, wl, gl, hr', ⟨cs, hcs, hcW⟩, hG⟩ := id R
    obtain ⟨sa, wa, sp, wp, I⟩ := id S
    have nd := sc_Rules_finished.nd
    refine ⟨_, pss_cons (ss 2 nd (pe_cmpR op_eq (pe_ix ix_tup (pv 1) pe_int (fun _ _ => rfl)) (bi call_len_seq T.f_len (pa_cons (pe_fld (pv 0) rfl) pa_nil)) (nomark _)))
      (pss_one (ps_ret (pe_and (pv 2) (pe_and (meth_c (pv 0) T.c_Rules T.t_Rules_heard_all (c_Rules_heard T) hr (pa_cons (pv 1) (pa_cons pe_int pa_nil))) (pe_one (meth_c (pv 0) T.c_Rules T.t_Rules_heard_all (c_Rules_heard T) hr (pa_cons (pv 1) (pa_cons pe_int pa_nil)))))))), ?_⟩
    refine ⟨_, rfl, t, _, 0, _, rfl, rfl, SqT.of I.top, atI_nat (j := 0) rfl, _, rfl, r, _, dx, _, _, rfl, hr', T.c_Rules, T.n_Rules_writes, lk_Rules_writes, wl, _, rfl, .inl (SqL.of hcs), rfl, ?_⟩
    have e1 : decide (V.int (sc.made : Nat) = V.int (((cs.map V.ref).length : Nat) : Int)) = decide (sc.made = ws.length) := by
      rw [List.length_map, hcW.len]
      exact decide_eq_decide.mpr ⟨fun z => by have := V.int.inj z; omega, fun z => by rw [z]⟩
    rw [e1]
    refine ⟨_, rfl, _, rfl, ?_⟩
    unfold finished at q
    by_cases hd : sc.made = ws.length
    · rw [decide_eq_true hd] at q ⊢
      refine iteT ⟨_, rfl, r, dx, _, rfl, hr', no_Rules_heard_all, _, rfl, r, st, t, ws, sc, false, rfl, R, S, hm, _, rfl, ?_⟩
      cases h0 : heardAll ws sc false with
      | false =>
        rw [h0] at q
        exact iteF q
      | true =>
        rw [h0] at q
        refine iteT ⟨_, rfl, r, dx, _, rfl, hr', no_Rules_heard_all, _, rfl, r, st, t, ws, sc, true, rfl, R, S, hm, ?_⟩
        exact q
    · rw [decide_eq_false hd] at q ⊢
      exact iteF q
def spPossible (K : PySem.W.Frag) : Sp := fun vs H Q _ => ∃ (r st t : Addr) (ws : List Write) (sc : Scene), vs = [.ref r, .ref t] ∧ RulesAt K H r st ws ∧ SceneAt H t sc ∧ sc.made ≤ ws.length ∧
  ∀ (l : Addr) (H' : Hp), Same H H' → H' l = some (.lst ((possible ws sc).map fun e => V.str (evS e))) → Q (.ref l) H'
theorem c_Rules_possible (T : Txt K mg) : Con P w K mg base 3 (He.ma K (He.ga K "Rules") "possible") ["self", "scene"] [] (spPossible K) := by
  refine con_of T.d_Rules_possible rfl rfl sc_Rules_possible (fun _ _ _ _ _ _ us hl => match us, hl with | [_, _], _ => rfl) (fun vs H Q E h => ?_) (fun cdv A outer s H vs Q E hr h => ?_)
  · obtain ⟨r, st, t, ws, sc, rfl, _⟩ := h
    rfl
  · obtain ⟨r, st, t, ws, sc, rfl, R, S, hm, q⟩ := h
    obtain ⟨dx, wl, gl, hr', ⟨cs, hcs, hcW⟩, hG⟩ := id R
    obtain ⟨sa, wa, sp, wp, I⟩ := id S
    obtain ⟨tw, gw⟩ := T.s_WRITE
    obtain ⟨tt, gt⟩ := T.s_TIMER
    have nd := sc_Rules_possible.nd
    have hu := hr.units
    refine ⟨_, pss_cons (ps_if (pt_val (meth_c (pv 0) T.c_Rules T.t_Rules_finished (c_Rules_finished T) hr (pa_cons (pv 1) pa_nil))) (pss_one (ps_ret (pe_lst pa_nil))) pss_nil)
      (pss_cons (ps_setLc (i := 2) (own := [("name", 4), ("way", 5)]) (g := gTup K 2 (gCons (gName 4) (gCons (gName 5) gNil))) (tt := tTest (tOp (rNeD K) (tVar 5) (tTup tNil))) (te := tVar 4) rfl nd rfl rfl (sw_true rfl rfl rfl (by decide +kernel))
          (RZ.pi_zipA rfl T.f_zip (pa_cons (gref T.arrs.1) (pa_cons (pe_ix ix_tup (pv 1) pe_int (fun _ _ => rfl)) pa_nil))) (blkOk_by (N := N_Rules_possible) (sc := defScope st_Rules_possible) (by decide +kernel))
          (fun _ _ _ _ _ => pg_tup rfl (pgs_cons (gn 4 nd) (pgs_cons (gn 5 nd) pgs_nil))) (fun _ _ _ _ _ => pts_one (pt_cmpR (op_neD hu) (pv 5) (pe_tup pa_nil) (nomark _))) (fun _ _ _ _ _ => pv 4))
      (pss_cons (ss 3 nd (pe_ix ix_tup (pv 1) pe_int (fun _ _ => rfl)))
      (C8.pss_cut (ps_if (PW.pt (pw_and (pt_cmpR op_lt (pv 3) (bi call_len_seq T.f_len (pa_cons (pe_fld (pv 0) rfl) pa_nil)) (nomark _)) (pw_and1 (pt_val (meth_c (pv 0) T.c_Rules T.t_Rules_heard_all (c_Rules_heard T) (hr.mono (by decide)) (pa_cons (pv 1) (pa_cons (pe_ix ix_tup (pe_ix ix_list (pe_fld (pv 0) rfl) (pv 3) (fun _ _ => rfl)) pe_int (fun _ _ => rfl)) pa_nil)))))))
        (pss_one (ps_expr (pe_bm PySem.F.plainAttrs_list PySem.F.slot_list_insert PySem.F.type_list_insert mt_insert (pv 2) (pa_cons pe_int (pa_cons (gstr gw) pa_nil))))) pss_nil)
      (pss_one (ps_ret (pe_orT (pv 2) (pe_one (pe_lst (pa_cons (gstr gt) pa_nil))))))))), ?_⟩
    refine ⟨_, rfl, r, dx, _, rfl, hr', no_Rules_finished, _, rfl, r, st, t, ws, sc, rfl, R, S, hm, _, rfl, ?_⟩
    cases hf : finished ws sc with
    | true =>
      have ep : possible ws sc = [] := by
        unfold possible
        rw [if_pos hf]
      rw [ep] at q
      exact iteT ⟨Nat.zero_le _, fun l hl => q l _ (same_new (Same.refl _) hl) upd_same⟩
    | false =>
      refine iteF ?_
      obtain ⟨dd, hA⟩ := T.arrs
      have ep : possible ws sc = if (if canWrite ws sc = true then Ev.write :: ((if sc.w0 ≠ [] then [Ev.arr false] else []) ++ (if sc.w1 ≠ [] then [Ev.arr true] else [])) else ((if sc.w0 ≠ [] then [Ev.arr false] else []) ++ (if sc.w1 ≠ [] then [Ev.arr true] else []))) = [] then [Ev.timer] else (if canWrite ws sc = true then Ev.write :: ((if sc.w0 ≠ [] then [Ev.arr false] else []) ++ (if sc.w1 ≠ [] then [Ev.arr true] else [])) else ((if sc.w0 ≠ [] then [Ev.arr false] else []) ++ (if sc.w1 ≠ [] then [Ev.arr true] else []))) := by
        unfold possible
        rw [if_neg (by rw [hf]; decide)]
      rw [ep] at q
      refine ⟨_, rfl, t, _, 3, _, rfl, rfl, SqT.of I.top, atI_nat (j := 3) rfl, _, wa, _, _, rfl, .inr ⟨hA _, SqT.of I.ways, fun D hD => ?_⟩⟩
      let fnd : Nat → List Ev := fun i => match i with
        | 0 => []
        | 1 => if sc.w0 ≠ [] then [Ev.arr false] else []
        | _ => (if sc.w0 ≠ [] then [Ev.arr false] else []) ++ (if sc.w1 ≠ [] then [Ev.arr true] else [])
      refine lc_it (walk_zipT (K := K) (a := He.ga K "ARRIVALS") (b := wa) (xs := [.str "arrive 0", .str "arrive 1"]) (ys := [.ref (wp false), .ref (wp true)]) (n := 2) rfl rfl) (fun i H' => Same H H' ∧ H' D = some (.lst ((fnd i).map fun e => V.str (evS e)))) ⟨same_new (Same.refl _) hD, upd_same⟩
        (fun i H' _ z => ⟨hA _, SqT.of (z.1 _ _ I.ways)⟩) (fun i y H' H'' hi z yy => ?_) (fun H' z => ?_)
      · obtain ⟨s1, hN⟩ := z
        obtain ⟨Tp, a1, a2, rfl, nT, rfl, e1, e2⟩ := yy
        refine ⟨Tp, _, rfl, SqT.of upd_same, rfl, _, _, rfl, _, _, rfl, rfl, rfl, ?_⟩
        have step : ∀ (e : Bool), a1 = .str (evS (.arr e)) → a2 = .ref (wp e) → ((sc.way e ≠ [] → fnd (i + 1) = fnd i ++ [Ev.arr e]) ∧ (sc.way e = [] → fnd (i + 1) = fnd i)) → (fnd i).length ≤ 2 →
            tTest (tOp (rNeD K) (tVar 5) (tTup tNil)) [some (.ref r), some (.ref t), none, none, some a1, some a2] (upd H' Tp (.tup [a1, a2])) fun b H3 => if b = true then tVar 4 [some (.ref r), some (.ref t), none, none, some a1, some a2] H3 fun y H4 => ∃ acc, H4 D = some (.lst acc) ∧ acc.length < sizeLine ∧
              (Same H (upd H4 D (.lst (acc ++ [y]))) ∧ (upd H4 D (.lst (acc ++ [y]))) D = some (.lst ((fnd (i + 1)).map fun e => V.str (evS e)))) else Same H H3 ∧ H3 D = some (.lst ((fnd (i + 1)).map fun e => V.str (evS e))) := by
          intro e h1 h2 hk hl
          subst h1 h2
          have s2 := same_new s1 nT (o := .tup [.str (evS (.arr e)), .ref (wp e)])
          have hN2 := upd_new nT hN (o := .tup [.str (evS (.arr e)), .ref (wp e)])
          refine ⟨_, rfl, Nat.zero_le _, fun e0 he0 => ?_⟩
          have s3 := same_new s2 he0 (o := .tup [])
          have hN3 := upd_new he0 hN2 (o := .tup [])
          refine ⟨wD (sc.way e), .tuple [], ((I.way e).kt (KT2.of s3)).dp, .tup (SqT.of upd_same) .nil, wD_shaped _, rfl, _, rfl, ?_⟩
          rw [wD_nil]
          by_cases hw : sc.way e = []
          · rw [hw]
            refine iteF ⟨s3, ?_⟩
            rw [hk.2 hw]
            exact hN3
          · have : (sc.way e).isEmpty = false := by cases h : sc.way e with | nil => exact absurd h hw | cons _ _ => rfl
            rw [this]
            refine iteT ⟨_, rfl, _, hN3, by rw [List.length_map]; exact small1000 (by omega), same_put s3 hD, ?_⟩
            rw [upd_same, hk.1 hw, List.map_append]
            rfl
        match i, hi with
        | 0, _ =>
          obtain rfl := Option.some.inj e1
          obtain rfl := Option.some.inj e2
          exact step false rfl rfl ⟨fun h => if_pos h, fun h => if_neg (fun z => z h)⟩ (Nat.zero_le _)
        | 1, _ =>
          obtain rfl := Option.some.inj e1
          obtain rfl := Option.some.inj e2
          refine step true rfl rfl ⟨fun h => ?_, fun h => ?_⟩ ?_
          · exact congrArg (fun z => (if sc.w0 ≠ [] then [Ev.arr false] else []) ++ z) (if_pos (show sc.w1 ≠ [] from h))
          · exact (congrArg (fun z => (if sc.w0 ≠ [] then [Ev.arr false] else []) ++ z) (if_neg (fun z => z (show sc.w1 = [] from h)))).trans (List.append_nil _)
          · show (if sc.w0 ≠ [] then [Ev.arr false] else []).length ≤ 2
            split <;> decide
        | n + 2, hi => omega
      · obtain ⟨s1, hN⟩ := z
        have hN : H' D = some (.lst (((if sc.w0 ≠ [] then [Ev.arr false] else []) ++ (if sc.w1 ≠ [] then [Ev.arr true] else [])).map fun e => V.str (evS e))) := hN
        generalize hfd : (if sc.w0 ≠ [] then [Ev.arr false] else []) ++ (if sc.w1 ≠ [] then [Ev.arr true] else []) = fd at q hN
        have fl : fd.length ≤ 2 := by
          rw [← hfd]
          split <;> split <;> decide
        have hr1 := s1 _ _ hr'
        have hcs1 := s1 _ _ hcs
        refine ⟨_, rfl, t, _, 0, _, rfl, rfl, SqT.of (s1 _ _ I.top), atI_nat (j := 0) rfl, ?_⟩
        refine ⟨fun σ H2 => σ = [some (.ref r), some (.ref t), some (.ref D), some (.int (sc.made : Nat)), none, none] ∧ Same H H2 ∧ H2 D = some (.lst ((if canWrite ws sc = true then Ev.write :: fd else fd).map fun e => V.str (evS e))), ?_, ?_⟩
        · refine ⟨_, rfl, _, rfl, r, _, dx, _, _, rfl, hr1, T.c_Rules, T.n_Rules_writes, lk_Rules_writes, wl, _, rfl, .inl (SqL.of hcs1), _, _, rfl, rfl, _, rfl, ?_⟩
          rw [List.length_map, hcW.len]
          by_cases c : ((sc.made : Nat) : Int) < ((ws.length : Nat) : Int)
          · have hlt : sc.made < ws.length := by omega
            have ew : ws[sc.made]? = some ws[sc.made] := List.getElem?_eq_getElem hlt
            generalize ws[sc.made] = wr at ew
            obtain ⟨ca, eca, hwr⟩ := hcW.get ew
            have hwr : H ca = some (.tup [.int (eV wr.ep), .int wr.len, .str (mV wr.mode)]) := hwr
            have ec : canWrite ws sc = heardAll ws sc wr.ep := by
              unfold canWrite
              rw [ew]
            rw [ec]
            refine iteD c ⟨_, rfl, r, dx, _, rfl, hr1, no_Rules_heard_all, _, rfl, _, rfl, r, _, dx, _, _, rfl, hr1, T.c_Rules, T.n_Rules_writes, lk_Rules_writes, _, rfl, wl, _, _, _, rfl, rfl, SqL.of hcs1, atI_nat (j := sc.made) (v := .ref ca) (by rw [List.getElem?_map, eca]; rfl), ca, _, 0, _, rfl, rfl, SqT.of (s1 _ _ hwr), atI_nat (j := 0) rfl,
              r, st, t, ws, sc, wr.ep, rfl, R.mono s1, S.mono s1, hm, _, rfl, ?_⟩
            cases hh : heardAll ws sc wr.ep with
            | true =>
              refine iteT ⟨_, rfl, .inl ⟨rfl, _, SqL.of hN⟩, D, _, 0, _, rfl, rfl, hN, by rw [List.length_map]; exact small1000 (by omega), by decide, by decide, ?_⟩
              exact ⟨rfl, same_put s1 hD, by rw [if_pos rfl]; exact upd_same⟩
            | false => exact iteF ⟨rfl, s1, by rw [if_neg (by decide)]; exact hN⟩
          · have ew : ws[sc.made]? = none := List.getElem?_eq_none (by omega)
            have ec : canWrite ws sc = false := by
              unfold canWrite
              rw [ew]
            exact iteDn c (iteF ⟨rfl, s1, by rw [ec, if_neg (by decide)]; exact hN⟩)
        · rintro _ H2 ⟨rfl, s2, hN2⟩
          generalize (if canWrite ws sc = true then Ev.write :: fd else fd) = f2 at q hN2
          refine ⟨_, rfl, _, .inl ⟨_, SqL.of hN2, rfl⟩, ?_⟩
          cases f2 with
          | nil => exact iteF ⟨(by show 1 ≤ sizeLine; decide), fun l hl => q l _ (same_new s2 hl) upd_same⟩
          | cons f fs => exact iteT (q D H2 s2 hN2)
end
end Lw

namespace Lw
open PySem PySem.Spec PyProof.Rows L2
open LW (Hold Mode Pol Cfg Write Side Scene Parts Way Rule Ev G heardAll finished possible canWrite scene0 side0 fut spk)
theorem fut_sum (size : Int) : ∀ ws : List Write, (ws.map fun wr => wr.len / size + 1).sum = fut size ws
  | [] => rfl
  | w :: ws => by
    rw [List.map_cons, List.sum_cons, fut_sum size ws]
    rfl
theorem putE_made {sc : Scene} {e : Bool} {x : Side × Way} : (putE sc e x).made = sc.made := LW.put_made
theorem putE_stalls {sc : Scene} {e : Bool} {x : Side × Way} : (putE sc e x).stalls = sc.stalls := LW.put_stalls
section
variable {P : Program} {w : World} {K : PySem.W.Frag} {mg : Str → Option Value} {base : Heap}
def spAfter (K : PySem.W.Frag) : Sp := fun vs H Q _ => ∃ (r st t : Addr) (cfg : Cfg) (ws : List Write) (sc : Scene) (ev : Ev), vs = [.ref r, .ref t, .str (evS ev)] ∧ RulesAt K H r st ws ∧ SetAt K H st cfg ∧ Fit cfg ws ∧ SceneAt H t sc ∧ Scn cfg ws sc ∧ ev ∈ possible ws sc ∧
  ∀ (t' : Addr) (H' : Hp), Same H H' → SceneAt H' t' (LW.after cfg ws sc ev) → Q (.ref t') H'
theorem c_Rules_after (T : Txt K mg) : Con P w K mg base 5 (He.ma K (He.ga K "Rules") "after") ["self", "scene", "event"] [] (spAfter K) := by
  refine con_of T.d_Rules_after rfl rfl sc_Rules_after (fun _ _ _ _ _ _ us hl => match us, hl with | [_, _, _], _ => rfl) (fun vs H Q E h => ?_) (fun cdv A outer s H vs Q E hr h => ?_)
  · obtain ⟨r, st, t, cfg, ws, sc, ev, rfl, _⟩ := h
    rfl
  · obtain ⟨r, st, t, cfg, ws, sc, ev, rfl, R, hS, fit, S, scn, hev, q⟩ := h
    obtain ⟨dx, wl, gl, hr', ⟨cs, hcs, hcW⟩, hG⟩ := id R
    obtain ⟨tw, gw⟩ := T.s_WRITE
    obtain ⟨tt, gt⟩ := T.s_TIMER
    have nd := sc_Rules_after.nd
    refine ⟨_, pss_cons (ss 3 nd (make_c T.m_Draft (c_Draft_init T) hr T.g_Draft (pa_cons (pe_fld (pv 0) rfl) (pa_cons (pv 1) pa_nil))))
      (C8.pss_cut (ps_if (pt_cmpR op_eq (pv 2) (gstr gw) (nomark _))
        (pss_cons (ps_asg (pe_ix ix_list (pe_fld (pv 0) rfl) (pe_fld (pv 3) rfl) (fun _ _ => rfl)) (pg_tup rfl (pgs_cons (gn 4 nd) (pgs_cons (gn 5 nd) (pgs_cons (gn 6 nd) pgs_nil)))))
        (pss_cons (ps_expr (meth_c (pv 3) T.c_Draft T.t_Draft_write (c_Draft_write T) (hr.mono (by decide)) (pa_cons (pv 4) (pa_cons (pv 5) (pa_cons (pv 6) pa_nil)))))
        (pss_one (ps_fldaug (pv 3) pe_int in_add))))
        (pss_one (ps_if (pt_cmpR op_eq (pv 2) (gstr gt) (nomark _))
          (pss_one (ps_expr (meth_c (pv 3) T.c_Draft T.t_Draft_fire (c_Draft_fire T) (hr.mono (by decide)) (pa_cons (pe_ix ix_tup (pe_ix ix_list (pe_fld (pv 0) rfl) (pe_op op_sub (pe_fld (pv 3) rfl) pe_int) (fun _ _ => rfl)) pe_int (fun _ _ => rfl)) pa_nil))))
          (pss_one (ps_expr (meth_c (pv 3) T.c_Draft T.t_Draft_arrive (c_Draft_arrive T) (hr.mono (by decide)) (pa_cons (pe_bm PySem.F.plainAttrs_tuple PySem.F.slot_tuple_index PySem.F.type_tuple_index mt_tup_index (gref T.arrs.1) (pa_cons (pv 2) pa_nil)) pa_nil)))))))
      (pss_one (ps_ret (meth_c0 (pv 3) T.c_Draft T.t_Draft_packed (c_Draft_packed T) (hr.mono (by decide)))))), ?_⟩
    refine ⟨_, rfl, r, _, dx, _, _, rfl, hr', T.c_Rules, T.n_Rules_setting, lk_Rules_setting, _, rfl, fun d dd hd hdd hn => ?_⟩
    refine ⟨d, dd, st, t, sc, H, rfl, upd_same, S, made_same hd hdd hn (Same.refl H), hd, fun H1 l k ip vp D => ⟨rfl, ?_⟩⟩
    obtain ⟨ddx, hdi⟩ := D.ins
    have s1 := D.same
    refine ⟨fun σ H' => ∃ u4 u5 u6, σ = [some (.ref r), some (.ref t), some (.str (evS ev)), some (.ref d), u4, u5, u6] ∧ DraftAt K H H' d st l k ip vp (LW.after cfg ws sc ev), ?_, ?_⟩
    · refine ⟨_, rfl, rfl, _, rfl, ?_⟩
      have wy := scn.way fit
      obtain ⟨hfin, hm⟩ := LW.mem_possible hev
      cases ev with
      | write =>
        obtain ⟨wr, ew, hh⟩ := hm
        obtain ⟨ca, eca, hwr⟩ := hcW.get ew
        have hwr : H ca = some (.tup [.int (eV wr.ep), .int wr.len, .str (mV wr.mode)]) := hwr
        have ln := fit.len wr (List.mem_of_getElem? ew)
        have wt := scn.waits fit wr.ep
        refine iteD rfl ⟨_, rfl, r, _, dx, _, _, rfl, s1 _ _ hr', T.c_Rules, T.n_Rules_writes, lk_Rules_writes, _, rfl, d, _, ddx, _, _, rfl, hdi, T.c_Draft, T.n_Draft_made, lk_Draft_made, wl, _, _, _, rfl, rfl, SqL.of (s1 _ _ hcs), atI_nat (j := sc.made) (v := .ref ca) (by rw [List.getElem?_map, eca]; rfl), ca, _, rfl, SqT.of (s1 _ _ hwr), rfl, _, _, rfl, _, _, rfl, _, _, rfl, rfl, ?_⟩
        refine ⟨_, rfl, d, ddx, _, rfl, hdi, no_Draft_write, _, rfl, _, rfl, _, rfl, H, d, st, l, k, ip, vp, sc, cfg, wr.ep, wr.len, wr.mode, rfl, D, hS, fit.cf, wt.1, ln.1, by have := wy wr.ep; omega, fun H2 D2 => ?_⟩
        obtain ⟨dd2, hd2⟩ := D2.ins
        refine ⟨_, rfl, d, _, dd2, _, _, rfl, hd2, T.c_Draft, T.n_Draft_made, lk_Draft_made, _, _, rfl, rfl, dd2, _, hd2, ln_Draft, ?_⟩
        rw [pf_Draft_made]
        have D3 := D2.setNum (dx := dd2) (sc.made + 1) sc.stalls
        have e1 : (((putE sc wr.ep (LW.wrC cfg.size (cfg.pol wr.ep).hold (sc.side wr.ep) (sc.way wr.ep) wr.len wr.mode)).made : Nat) : Int) + 1 = ((sc.made + 1 : Nat) : Int) := by
          rw [putE_made]
          omega
        rw [e1, putE_stalls]
        refine ⟨_, _, _, rfl, ?_⟩
        have e2 : LW.after cfg ws sc .write = { putE sc wr.ep (LW.wrC cfg.size (cfg.pol wr.ep).hold (sc.side wr.ep) (sc.way wr.ep) wr.len wr.mode) with made := sc.made + 1, stalls := sc.stalls } := by
          have : LW.after cfg ws sc .write = sc.write cfg wr := by
            show (match ws[sc.made]? with
              | some w => sc.write cfg w
              | none => sc) = _
            rw [ew]
          rw [this]
          unfold Scene.write putE
          cases wr.ep <;> rfl
        rw [e2]
        exact D3
      | timer =>
        have dead : LW.Dead ws sc := hm
        have hpos : 0 < sc.made := by
          rcases Nat.eq_zero_or_pos sc.made with z | z
          · exfalso
            have hw := dead.wr
            have hf := dead.fin
            have z0 := scn.j.zero z
            unfold canWrite at hw
            unfold finished at hf
            rw [z] at hw
            cases hws : ws[0]? with
            | none =>
              have : ws.length = 0 := by
                have := List.getElem?_eq_none_iff.mp hws
                omega
              have g0 : ∀ e, G ws sc.made e = 0 := fun e => by rw [z]; rfl
              rw [z, this] at hf
              unfold heardAll at hf
              rw [g0, g0] at hf
              have a1 : (sc.side false).heard = 0 := z0.2.2.1
              have a2 : (sc.side true).heard = 0 := z0.2.2.2
              rw [a1, a2] at hf
              simp at hf
            | some wr =>
              rw [hws] at hw
              unfold heardAll at hw
              have g0 : ∀ e, G ws sc.made e = 0 := fun e => by rw [z]; rfl
              have hw : decide ((sc.side wr.ep).heard = G ws sc.made !wr.ep) = false := hw
              rw [g0] at hw
              have : (sc.side wr.ep).heard = 0 := by
                cases wr.ep
                · exact z0.2.2.1
                · exact z0.2.2.2
              rw [this] at hw
              simp at hw
          · exact z
        have hle := scn.j.le
        have ew : ws[sc.made - 1]? = some ws[sc.made - 1] := List.getElem?_eq_getElem (by omega)
        generalize ws[sc.made - 1] = wr at ew
        obtain ⟨ca, eca, hwr⟩ := hcW.get ew
        have hwr : H ca = some (.tup [.int (eV wr.ep), .int wr.len, .str (mV wr.mode)]) := hwr
        have es : spk ws sc.made = wr.ep := by
          unfold spk
          rw [ew]
          rfl
        refine iteDn (by decide +kernel) ⟨_, rfl, rfl, _, rfl, iteD rfl ?_⟩
        refine ⟨_, rfl, d, ddx, _, rfl, hdi, no_Draft_fire, _, rfl, r, _, dx, _, _, rfl, s1 _ _ hr', T.c_Rules, T.n_Rules_writes, lk_Rules_writes, _, rfl, d, _, ddx, _, _, rfl, hdi, T.c_Draft, T.n_Draft_made, lk_Draft_made, _, _, rfl, rfl, wl, _, _, _, rfl, rfl, SqL.of (s1 _ _ hcs), ?_, ca, _, 0, _, rfl, rfl, SqT.of (s1 _ _ hwr), atI_nat (j := 0) rfl,
          H, d, st, l, k, ip, vp, sc, cfg, wr.ep, rfl, D, hS, fun b => by have := wy b; omega, fun H2 D2 => ⟨_, _, _, rfl, ?_⟩⟩
        · have : ((sc.made : Nat) : Int) - 1 = ((sc.made - 1 : Nat) : Int) := by omega
          show atI _ (((sc.made : Nat) : Int) - 1) = _
          rw [this]
          exact atI_nat (by rw [List.getElem?_map, eca]; rfl)
        · show DraftAt K H H2 d st l k ip vp (sc.fire cfg (spk ws sc.made))
          rw [es]
          exact D2
      | arr e =>
        have hw : sc.way e ≠ [] := hm
        refine iteDn (by cases e <;> decide +kernel) ⟨_, rfl, rfl, _, rfl, iteDn (by cases e <;> decide +kernel) ?_⟩
        refine ⟨_, rfl, d, ddx, _, rfl, hdi, no_Draft_arrive, .inr (.inl ⟨rfl, T.arro⟩), _, rfl, He.ga K "ARRIVALS", ["arrive 0", "arrive 1"], evS (.arr e), (if e = true then 1 else 0), rfl, rfl, T.arrs.2 _, by cases e <;> rfl, ?_, H, d, st, l, k, ip, vp, sc, cfg, e, by cases e <;> rfl, D, hS, hw, by have := wy (!e); omega, fun H2 D2 => ⟨_, _, _, rfl, D2⟩⟩
        intro m hm'
        cases e
        · exact absurd hm' (by show ¬ m < 0; omega)
        · have : m = 0 := by
            have : m < 1 := hm'
            omega
          subst this
          decide +kernel
    · rintro _ H2 ⟨u4, u5, u6, rfl, D2⟩
      obtain ⟨dd2, hd2⟩ := D2.ins
      exact ⟨_, rfl, d, dd2, _, rfl, hd2, no_Draft_packed, H, d, st, l, k, ip, vp, _, rfl, D2, fun t' H3 s3 S3 => q t' H3 s3 S3⟩
def spRulesInit (K : PySem.W.Frag) : Sp := fun vs H Q _ => ∃ (x dx st wa : Addr) (bound : Int) (cfg : Cfg) (ws : List Write) (B : Hp), vs = [.ref x, .ref st, .ref wa, .int bound] ∧ H x = some (.ins (He.ga K "Rules") dx []) ∧ Same B H ∧ B x = none ∧ SetAt K B st cfg ∧ ConvAt B wa ws ∧ Fit cfg ws ∧ fut cfg.size ws ≤ bound ∧
  ∀ (H' : Hp), Same B H' → RulesAt K H' x st ws → Q .non H'
theorem c_Rules_init (T : Txt K mg) : Con P w K mg base 5 (He.ma K (He.ga K "Rules") "__init__") ["self", "setting", "conversation", "bound"] [] (spRulesInit K) := by
  refine con_of T.d_Rules_init rfl rfl sc_Rules_init (fun _ _ _ _ _ _ us hl => match us, hl with | [_, _, _, _], _ => rfl) (fun vs H Q E h => ?_) (fun cdv A outer s H vs Q E hr h => ?_)
  · obtain ⟨x, dx, st, wa, bound, cfg, ws, B, rfl, _⟩ := h
    rfl
  · obtain ⟨x, dx, st, wa, bound, cfg, ws, B, rfl, hx, sB, bx, hS, hW, fit, hb, q⟩ := h
    obtain ⟨cs, hcs, hcW⟩ := id hW
    obtain ⟨sdx, stp, hst⟩ := hS.size
    have nd := sc_Rules_init.nd
    have z1 := fit.cf.s1
    have z5 := fit.s5
    refine ⟨_, pss_cons (ps_expr (call_c (c_check T) hr T.g_check (pa_cons (pv 2) pa_nil)))
      (pss_cons (ss 7 nd (bi (cr_sum rfl) T.f_sum (pa_cons (pe_lc (own := [("endpoint", 4), ("length", 5), ("mode", 6)]) (g := gTup K 3 (gCons (gName 4) (gCons (gName 5) (gCons (gName 6) gNil)))) (tt := tYes)
          (te := tOp (rI0 fun i j => V.int (i + j)) (tOp (rI CDiv fun i j => .int (i / j)) (tVar 5) (tFld K (tVar 1) "size")) (tC (.int 1))) rfl nd
          (pi_list (pv 2)) (blkOk_by (N := N_Rules_init) (sc := defScope st_Rules_init) (by decide +kernel))
          (fun _ _ _ _ _ => pg_tup rfl (pgs_cons (gn 4 nd) (pgs_cons (gn 5 nd) (pgs_cons (gn 6 nd) pgs_nil)))) (fun _ _ _ _ _ => pts_nil)
          (fun _ _ _ _ _ => pe_op op_add (pe_op op_fdiv (pv 5) (pe_fld (pv 1) rfl)) pe_int)) pa_nil)))
      (pss_cons (ps_if (pt_cmpR op_gt (pv 7) (pv 3) (nomark _)) pss_never pss_nil)
      (pss_cons (ps_fld (pv 0) (pv 1) rfl)
      (pss_cons (ps_fld (pv 0) (ty call_list_of T.f_list (pa_cons (pv 2) pa_nil)) rfl)
      (pss_cons (ps_fld (pv 0) (pe_lst (pa_cons (pe_tup (pa_cons pe_int (pa_cons pe_int pa_nil))) pa_nil)) rfl)
      (pss_one (ps_for PassesOwn.never rfl (pi_list (pv 2)) (pg_tup rfl (pgs_cons (gn 4 nd) (pgs_cons (gn 5 nd) (pgs_cons (gn 6 nd) pgs_nil))))
        (pss_cons (ps_asg (pe_ix ix_list (pe_fld (pv 0) rfl) (pe_un un_neg pe_int) (fun _ _ => rfl)) (pg_tup rfl (pgs_cons (gn 8 nd) (pgs_cons (gn 9 nd) pgs_nil))))
        (pss_one (ps_expr (pe_bm PySem.F.plainAttrs_list PySem.F.slot_list_append PySem.F.type_list_append mt_append (pe_fld (pv 0) rfl) (pa_cons (pe_ifExp (pt_cmpR op_eq (pv 4) pe_int (nomark _)) (pe_tup (pa_cons (pe_op op_add (pv 8) (pv 5)) (pa_cons (pv 9) pa_nil))) (pe_tup (pa_cons (pv 8) (pa_cons (pe_op op_add (pv 9) (pv 5)) pa_nil)))) pa_nil)))))))))))), ?_⟩
    have wok := fit.wr
    have l200 : ws.length ≤ 200 := Nat.le_trans fit.n5 (by decide)
    refine ⟨_, rfl, wa, ws, rfl, hW.mono sB, l200, wok, fun H1 s1 => ?_⟩
    have sB1 := sB.trans s1
    have hx1 := s1 _ _ hx
    refine ⟨_, rfl, wa, rfl, ⟨_, SqL.of (sB1 _ _ hcs)⟩, fun D hD => ?_⟩
    refine lc_list (K := K) (xs := cs.map V.ref) (fun i H' => Same H1 H' ∧ H' D = some (.lst (((ws.take i).map fun wr => wr.len / cfg.size + 1).map V.int))) ⟨same_new (Same.refl _) hD, upd_same⟩ (fun i H' _ z => SqL.of (z.1 _ _ (sB1 _ _ hcs))) (fun i y H' hi z => ?_) (fun H' z => ?_)
    · obtain ⟨s2, hN⟩ := z
      obtain ⟨ca, eca, rfl⟩ := ref_at hi
      obtain ⟨wr, ew, hwr⟩ := hcW.get' eca
      have hwr : B ca = some (.tup [.int (eV wr.ep), .int wr.len, .str (mV wr.mode)]) := hwr
      have s12 := sB1.trans s2
      refine ⟨ca, _, rfl, SqT.of (s12 _ _ hwr), rfl, _, _, rfl, _, _, rfl, _, _, rfl, rfl, rfl, ?_⟩
      refine iteT (B := False) ?_
      refine ⟨_, rfl, _, rfl, st, _, sdx, _, _, rfl, s12 _ _ hst, T.c_Setting, T.n_Setting_size, lk_Setting_size, _, _, rfl, rfl, ⟨by omega, by omega⟩, _, _, rfl, rfl, _, hN, by rw [List.length_map, List.length_map, List.length_take]; exact small1000 (by omega), same_put s2 hD, ?_⟩
      rw [upd_same, List.take_add_one, ew]
      simp
    · obtain ⟨s2, hN⟩ := z
      rw [List.length_map, hcW.len, List.take_length] at hN
      refine ⟨D, _, rfl, SqL.of hN, ?_⟩
      rw [fut_sum]
      refine ⟨_, rfl, _, rfl, _, _, rfl, rfl, _, rfl, iteDn (by omega) ?_⟩
      have sB2 := sB1.trans s2
      have hx2 := s2 _ _ hx1
      clear hN
      refine ⟨_, rfl, _, rfl, x, _, dx, _, rfl, hx2, T.c_Rules, T.n_Rules_setting, by decide, ?_⟩
      generalize hH3 : upd H' x (.ins (He.ga K "Rules") dx (putF "setting" (.ref st) [])) = H3
      have s3 : Same B H3 := by rw [← hH3]; exact same_put sB2 bx
      have hx3 : H3 x = some (.ins (He.ga K "Rules") dx (putF "setting" (.ref st) [])) := by rw [← hH3]; exact upd_same
      clear hH3
      refine ⟨_, rfl, wa, _, rfl, .inl (SqL.of (s3 _ _ hcs)), fun wl hwl => ?_⟩
      have hx4 := upd_new hwl hx3 (o := .lst (cs.map V.ref))
      have s4 := same_new s3 hwl (o := .lst (cs.map V.ref))
      have hl4 : (upd H3 wl (.lst (cs.map V.ref))) wl = some (.lst (cs.map V.ref)) := upd_same
      generalize upd H3 wl (.lst (cs.map V.ref)) = H4 at hx4 s4 hl4
      have nwx : wl ≠ x := ne_of hl4 hx4 (by intro z; cases z)
      refine ⟨_, rfl, x, _, dx, _, rfl, hx4, T.c_Rules, T.n_Rules_writes, (by show 1 < 1000; decide), ?_⟩
      generalize hH5 : upd H4 x (.ins (He.ga K "Rules") dx (putF "writes" (.ref wl) (putF "setting" (.ref st) []))) = H5
      have s5 : Same B H5 := by rw [← hH5]; exact same_put s4 bx
      have hx5 : H5 x = some (.ins (He.ga K "Rules") dx (putF "writes" (.ref wl) (putF "setting" (.ref st) []))) := by rw [← hH5]; exact upd_same
      have hl5 : H5 wl = some (.lst (cs.map V.ref)) := by rw [← hH5, upd_ne nwx]; exact hl4
      clear hH5
      refine ⟨(by show 2 ≤ sizeLine; decide), fun g0 hg0 => ⟨(by show 1 ≤ sizeLine; decide), fun gl hgl => ?_⟩⟩
      have hx6 := upd_new hgl (upd_new hg0 hx5 (o := .tup [.int 0, .int 0])) (o := .lst [.ref g0])
      have hl6 := upd_new hgl (upd_new hg0 hl5 (o := .tup [.int 0, .int 0])) (o := .lst [.ref g0])
      have s6 := same_new (same_new s5 hg0 (o := .tup [.int 0, .int 0])) hgl (o := .lst [.ref g0])
      have hp6 : PairT (upd (upd H5 g0 (.tup [.int 0, .int 0])) gl (.lst [.ref g0])) g0 (0, 0) := upd_new hgl upd_same
      have hg6 : (upd (upd H5 g0 (.tup [.int 0, .int 0])) gl (.lst [.ref g0])) gl = some (.lst [.ref g0]) := upd_same
      have bgl : B gl = none := (same_new s5 hg0 (o := .tup [.int 0, .int 0])).free hgl
      have ngl : wl ≠ gl := ne_of_none (upd_new hg0 hl5) hgl
      generalize upd (upd H5 g0 (.tup [.int 0, .int 0])) gl (.lst [.ref g0]) = H6 at hx6 hl6 s6 hp6 hg6
      refine ⟨_, rfl, x, _, dx, _, rfl, hx6, T.c_Rules, T.n_Rules_given, (by show 2 < 1000; decide), ?_⟩
      rw [mk_Rules]
      have ngx : gl ≠ x := ne_of hg6 hx6 (by intro z; cases z)
      have k7 : KT2 H6 (upd H6 x (.ins (He.ga K "Rules") dx (f_Rules st wl gl))) := KT2.put hx6 (fun _ z => nomatch z)
      refine ⟨_, rfl, wa, rfl, ⟨_, SqL.of (same_put s6 bx _ _ hcs)⟩, for_it walk_list (fun i σ H' => ∃ (u4 u5 u6 u8 u9 : Option V) (as : List Addr), σ = [some (.ref x), some (.ref st), some (.ref wa), some (.int bound), u4, u5, u6, some (.int (fut cfg.size ws)), u8, u9] ∧ Same B H' ∧
        H' x = some (.ins (He.ga K "Rules") dx (f_Rules st wl gl)) ∧ H' wl = some (.lst (cs.map V.ref)) ∧ H' gl = some (.lst (as.map V.ref)) ∧ All2 (PairT H') as ((List.range (i + 1)).map fun m => (G ws m false, G ws m true)))
        ⟨none, none, none, none, none, [g0], rfl, same_put s6 bx, upd_same, by rw [upd_ne nwx]; exact hl6, by rw [upd_ne ngx]; exact hg6, All2.one (hp6.kt k7)⟩ (fun i σ H' _ ⟨_, _, _, _, _, _, _, z, _⟩ => SqL.of (z _ _ hcs)) ?_ ?_⟩
      · rintro i y σ H7 H8 hi ⟨u4, u5, u6, u8, u9, as, rfl, s7, hx7, hl7, hg7, hA⟩ ⟨rfl, hy⟩
        obtain ⟨ca, eca, rfl⟩ := ref_at hy
        obtain ⟨wr, ew, hwr⟩ := hcW.get' eca
        have hwr : B ca = some (.tup [.int (eV wr.ep), .int wr.len, .str (mV wr.mode)]) := hwr
        have hi5 : i < 5 := by
          have := (List.getElem?_eq_some_iff.mp ew).1
          have := fit.n5
          omega
        rcases nil_or_snoc as with rfl | ⟨as0, a1, rfl⟩
        · have := hA.len
          simp at this
        have hA' := hA
        rw [List.range_succ, List.map_append] at hA'
        obtain ⟨hA0, hA1⟩ := hA'.init
        have hA1 : H8 a1 = some (.tup [.int (G ws i false), .int (G ws i true)]) := hA1
        have hg7' : H8 gl = some (.lst (as0.map V.ref ++ [V.ref a1])) := by
          rw [hg7, List.map_append]
          rfl
        have l0 := hA0.len
        rw [List.length_map, List.length_range] at l0
        refine ⟨ca, _, rfl, SqT.of (s7 _ _ hwr), rfl, _, _, rfl, _, _, rfl, _, _, rfl, rfl, ?_⟩
        refine ⟨_, rfl, x, _, dx, _, _, rfl, hx7, T.c_Rules, T.n_Rules_given, lk_Rules_given, _, rfl, gl, _, _, _, rfl, rfl, SqL.of hg7', atI_last _ _, a1, _, rfl, SqT.of hA1, rfl, _, _, rfl, _, _, rfl, rfl, ?_⟩
        refine ⟨_, rfl, x, _, dx, _, _, rfl, hx7, T.c_Rules, T.n_Rules_given, lk_Rules_given, .inl ⟨rfl, _, SqL.of hg7'⟩, _, rfl, rfl, _, rfl, ?_⟩
        have fin : ∀ (a b : Int), a = G ws (i + 1) false → b = G ws (i + 1) true → ∀ p, H8 p = none → rAppend (.ref gl) [.ref p] (upd H8 p (.tup [.int a, .int b])) fun v H9 => ∃ (u4 u5 u6 u8 u9 : Option V) (as : List Addr), ([some (.ref x), some (.ref st), some (.ref wa), some (.int bound), some (.int (eV wr.ep)), some (.int wr.len), some (.str (mV wr.mode)), some (.int (fut cfg.size ws)), some (.int (G ws i false)), some (.int (G ws i true))] : L2.St) = [some (.ref x), some (.ref st), some (.ref wa), some (.int bound), u4, u5, u6, some (.int (fut cfg.size ws)), u8, u9] ∧ Same B H9 ∧
            H9 x = some (.ins (He.ga K "Rules") dx (f_Rules st wl gl)) ∧ H9 wl = some (.lst (cs.map V.ref)) ∧ H9 gl = some (.lst (as.map V.ref)) ∧ All2 (PairT H9) as ((List.range (i + 1 + 1)).map fun m => (G ws m false, G ws m true)) := by
          intro a b ha hb p hp
          have kt : KT2 H8 (upd (upd H8 p (.tup [.int a, .int b])) gl (.lst ((as0.map V.ref ++ [V.ref a1]) ++ [.ref p]))) := (KT2.of (same_new (Same.refl _) hp)).trans (KT2.put (upd_new hp hg7') (fun _ z => nomatch z))
          have npg : p ≠ gl := fun z => by rw [z, hg7] at hp; cases hp
          refine ⟨gl, _, _, rfl, rfl, upd_new hp hg7', by rw [List.length_append, List.length_map, l0]; exact small1000 (by simp; omega), _, _, _, _, _, (as0 ++ [a1]) ++ [p], rfl, same_put (same_new s7 hp) bgl, ?_, ?_, ?_, ?_⟩
          · rw [upd_ne ngx.symm]
            exact upd_new hp hx7
          · rw [upd_ne ngl]
            exact upd_new hp hl7
          · rw [upd_same, List.map_append, List.map_append]
            rfl
          · rw [List.range_succ, List.map_append]
            refine All2.snoc (hA.mono fun _ _ q => q.kt kt) ?_
            show upd _ _ _ p = _
            rw [upd_ne npg, upd_same, ha, hb]
        cases hep : wr.ep with
        | false =>
          refine iteD rfl ⟨_, rfl, _, rfl, _, _, rfl, rfl, _, rfl, (by show 2 ≤ sizeLine; decide), fun p hp => ?_⟩
          have := fin (G ws i false + wr.len) (G ws i true) (by rw [LW.G_succ ew, hep, if_pos rfl]) (by rw [LW.G_succ ew, hep, if_neg (by decide)]; omega) p hp
          rw [hep] at this
          exact this
        | true =>
          refine iteDn (fun z => by cases z) ⟨_, rfl, _, rfl, _, rfl, _, _, rfl, rfl, (by show 2 ≤ sizeLine; decide), fun p hp => ?_⟩
          have := fin (G ws i false) (G ws i true + wr.len) (by rw [LW.G_succ ew, hep, if_neg (by decide)]; omega) (by rw [LW.G_succ ew, hep, if_pos rfl]) p hp
          rw [hep] at this
          exact this
      · rintro σ H7 ⟨u4, u5, u6, u8, u9, as, rfl, s7, hx7, hl7, hg7, hA⟩
        rw [List.length_map, hcW.len] at hA
        exact q H7 s7 ⟨dx, wl, gl, hx7, ⟨cs, hl7, hcW.mono fun _ _ q => s7 _ _ q⟩, as, hg7, hA⟩
end
end Lw

namespace Lw
open PySem PySem.Spec PyProof.Rows L2
open LW (Hold Mode Pol Cfg Write Side Scene Parts Way Rule Ev G J heardAll finished possible canWrite scene0 side0 fut spk mu)
def cutH (H : Hp) (x : Addr) : Hp := fun b => if b = x then none else H b
theorem cutH_at {H : Hp} {x : Addr} : cutH H x x = none := if_pos rfl
theorem cutH_same {H : Hp} {x : Addr} : Same (cutH H x) H := fun b o e => by
  unfold cutH at e
  split at e
  · cases e
  · exact e
theorem cutH_of {H : Hp} {x b : Addr} {o : HO} (h : H b = some o) (n : b ≠ x) : cutH H x b = some o := by
  unfold cutH
  rw [if_neg n]
  exact h
structure RoadAt (K : PySem.W.Frag) (B H : Hp) (ro r st sl dl : Addr) (cfg : Cfg) (ws : List Write) (sc : Scene) (n : Nat) : Prop where
  same : Same B H
  set : SetAt K B st cfg
  rules : RulesAt K B r st ws
  ins : ∃ dx, H ro = some (.ins (He.ga K "Road") dx (f_Road r sl dl 0))
  scenes : ∃ (vs : List V) (t : Addr), H sl = some (.lst (vs ++ [.ref t])) ∧ SceneAt H t sc ∧ vs.length = n
  deeds : ∃ ds : List V, H dl = some (.lst ds) ∧ ds.length = n
  fr : B ro = none
  fs : B sl = none
  fd : B dl = none
  ne : sl ≠ dl
  fit : Fit cfg ws
  j : J cfg ws sc
  bud : (n : Int) + mu cfg ws sc ≤ 1000
section
variable {K : PySem.W.Frag} {B H H' : Hp} {ro r st sl dl : Addr} {cfg : Cfg} {ws : List Write} {sc : Scene} {n : Nat}
theorem RoadAt.mono (D : RoadAt K B H ro r st sl dl cfg ws sc n) (s : Same H H') : RoadAt K B H' ro r st sl dl cfg ws sc n := by
  obtain ⟨dx, h1⟩ := D.ins
  obtain ⟨vs, t, h2, h3, h4⟩ := D.scenes
  obtain ⟨ds, h5, h6⟩ := D.deeds
  exact { D with same := D.same.trans s, ins := ⟨dx, s _ _ h1⟩, scenes := ⟨vs, t, s _ _ h2, h3.mono s, h4⟩, deeds := ⟨ds, s _ _ h5, h6⟩ }
theorem RoadAt.scn (D : RoadAt K B H ro r st sl dl cfg ws sc n) : Scn cfg ws sc := ⟨D.j, by have := D.bud; omega⟩
theorem RoadAt.small (D : RoadAt K B H ro r st sl dl cfg ws sc n) : n ≤ 1000 := by
  have a := LW.mu_nn D.fit.ok D.fit.wok D.j
  have b := D.bud
  omega
end
section
variable {P : Program} {w : World} {K : PySem.W.Frag} {mg : Str → Option Value} {base : Heap}
def spRoadInit (K : PySem.W.Frag) : Sp := fun vs H Q _ => ∃ (x dx st wa : Addr) (cfg : Cfg) (ws : List Write) (B : Hp), vs = [.ref x, .ref st, .ref wa] ∧ H x = some (.ins (He.ga K "Road") dx []) ∧ Same B H ∧ B x = none ∧ SetAt K B st cfg ∧ ConvAt B wa ws ∧ Fit cfg ws ∧
  ∀ (B' H' : Hp) (r sl dl : Addr), Same B B' → RoadAt K B' H' x r st sl dl cfg ws scene0 0 → Q .non H'
theorem c_Road_init (T : Txt K mg) : Con P w K mg base 7 (He.ma K (He.ga K "Road") "__init__") ["self", "setting", "conversation"] [] (spRoadInit K) := by
  refine con_of T.d_Road_init rfl rfl sc_Road_init (fun _ _ _ _ _ _ us hl => match us, hl with | [_, _, _], _ => rfl) (fun vs H Q E h => ?_) (fun cdv A outer s H vs Q E hr h => ?_)
  · obtain ⟨x, dx, st, wa, cfg, ws, B, rfl, _⟩ := h
    rfl
  · obtain ⟨x, dx, st, wa, cfg, ws, B, rfl, hx, sB, bx, hS, hW, fit, q⟩ := h
    obtain ⟨t1, g1⟩ := T.i_MOST_SEGMENTS
    have hfut : fut cfg.size ws ≤ 300 := by
      have a := fut_le fit.cf.s1 fit.len
      have b := fit.n5
      omega
    refine ⟨_, pss_cons (ps_fld (pv 0) (make_c T.m_Rules (c_Rules_init T) hr T.g_Rules (pa_cons (pv 1) (pa_cons (pv 2) (pa_cons (gint g1) pa_nil)))) rfl)
      (pss_cons (ps_fld (pv 0) (pe_lst (pa_cons (meth_c0 (pe_fld (pv 0) rfl) T.c_Rules T.t_Rules_first (c_Rules_first T) (hr.mono (by decide))) pa_nil)) rfl)
      (pss_cons (ps_fld (pv 0) (pe_lst pa_nil) rfl) (pss_one (ps_fld (pv 0) pe_int rfl)))), ?_⟩
    refine ⟨_, rfl, _, rfl, fun r dr hr0 hdr0 hn => ?_⟩
    refine ⟨r, dr, st, wa, 300, cfg, ws, H, rfl, upd_same, made_same hr0 hdr0 hn (Same.refl H), hr0, hS.mono sB, hW.mono sB, fit, hfut, fun H1 s1 R1 => ⟨rfl, ?_⟩⟩
    have hx1 := s1 _ _ hx
    refine ⟨_, rfl, x, _, dx, _, rfl, hx1, T.c_Road, T.n_Road_rules, by decide, ?_⟩
    have nrx : r ≠ x := (ne_of_none hx hr0).symm
    -- the base
    have hB1 : Same B (cutH H1 x) := fun b o e => cutH_of (s1 _ _ (sB _ _ e)) (ne_of_none e bx)
    have R2 : RulesAt K (cutH H1 x) r st ws := by
      obtain ⟨dy, wl, gl, h1, ⟨cs, h2, h3⟩, as, h4, h5⟩ := R1
      have nt : ∀ b xs, H1 b = some (.tup xs) → b ≠ x := fun b xs e => ne_of e hx1 (by intro z; cases z)
      exact ⟨dy, wl, gl, cutH_of h1 nrx, ⟨cs, cutH_of h2 (ne_of h2 hx1 (by intro z; cases z)), h3.mono fun _ _ e => cutH_of e (nt _ _ e)⟩, as, cutH_of h4 (ne_of h4 hx1 (by intro z; cases z)), h5.mono fun _ _ e => cutH_of e (nt _ _ e)⟩
    obtain ⟨dy, wl, gl, hri, _⟩ := id R2
    have bB1 : cutH H1 x x = none := cutH_at
    have sC : Same (cutH H1 x) H1 := cutH_same
    generalize cutH H1 x = B1 at hB1 R2 hri bB1 sC
    generalize hH2 : upd H1 x (.ins (He.ga K "Road") dx (putF "rules" (.ref r) [])) = H2
    have s2 : Same B1 H2 := by rw [← hH2]; exact same_put sC bB1
    have hx2 : H2 x = some (.ins (He.ga K "Road") dx (putF "rules" (.ref r) [])) := by rw [← hH2]; exact upd_same
    clear hH2
    refine ⟨_, rfl, x, _, dx, _, _, rfl, hx2, T.c_Road, T.n_Road_rules, by kernel_rfl, r, dy, _, rfl, s2 _ _ hri, no_Rules_first, r, dy, [], rfl, fun t H3 s3 S3 => ⟨(by show 1 ≤ sizeLine; decide), fun sl hsl => ?_⟩⟩
    have s4 := same_new (s2.trans s3) hsl (o := .lst [.ref t])
    have hx4 := upd_new hsl (s3 _ _ hx2) (o := .lst [.ref t])
    have hs4 : (upd H3 sl (.lst [.ref t])) sl = some (.lst [.ref t]) := upd_same
    have S4 := S3.kt (KT2.of (same_new (Same.refl _) hsl (o := .lst [.ref t])))
    have bsl : B1 sl = none := (s2.trans s3).free hsl
    generalize upd H3 sl (.lst [.ref t]) = H4 at s4 hx4 hs4 S4
    refine ⟨_, rfl, x, _, dx, _, rfl, hx4, T.c_Road, T.n_Road_scenes, (by show 1 < 1000; decide), ?_⟩
    have nsx : sl ≠ x := ne_of hs4 hx4 (by intro z; cases z)
    generalize hH5 : upd H4 x (.ins (He.ga K "Road") dx (putF "scenes" (.ref sl) (putF "rules" (.ref r) []))) = H5
    have s5 : Same B1 H5 := by rw [← hH5]; exact same_put s4 bB1
    have hx5 : H5 x = some (.ins (He.ga K "Road") dx (putF "scenes" (.ref sl) (putF "rules" (.ref r) []))) := by rw [← hH5]; exact upd_same
    have hs5 : H5 sl = some (.lst [.ref t]) := by rw [← hH5, upd_ne nsx]; exact hs4
    have S5 : SceneAt H5 t scene0 := by rw [← hH5]; exact S4.kt (KT2.put hx4 (fun _ z => nomatch z))
    clear hH5
    refine ⟨Nat.zero_le _, fun dl hdl => ?_⟩
    have s6 := same_new s5 hdl (o := .lst [])
    have hx6 := upd_new hdl hx5 (o := .lst [])
    have hs6 := upd_new hdl hs5 (o := .lst [])
    have hd6 : (upd H5 dl (.lst [])) dl = some (.lst []) := upd_same
    have S6 := S5.kt (KT2.of (same_new (Same.refl _) hdl (o := .lst [])))
    have bdl : B1 dl = none := s5.free hdl
    have nsd : sl ≠ dl := ne_of_none hs5 hdl
    generalize upd H5 dl (.lst []) = H6 at s6 hx6 hs6 hd6 S6
    have ndx : dl ≠ x := ne_of hd6 hx6 (by intro z; cases z)
    refine ⟨_, rfl, x, _, dx, _, rfl, hx6, T.c_Road, T.n_Road_deeds, (by show 2 < 1000; decide), ?_⟩
    refine ⟨_, rfl, x, _, dx, _, rfl, upd_same, T.c_Road, T.n_Road_floor, (by show 3 < 1000; decide), ?_⟩
    rw [upd_upd, mk_Road]
    refine q B1 _ r sl dl hB1 ⟨same_put s6 bB1, hS.mono hB1, R2, ⟨dx, upd_same⟩, ⟨[], t, ?_, S6.kt (KT2.put hx6 (fun _ z => nomatch z)), rfl⟩, ⟨[], ?_, rfl⟩, bB1, bsl, bdl, nsd, fit, LW.j0 fit.ok, ?_⟩
    · rw [upd_ne nsx]
      exact hs6
    · rw [upd_ne ndx]
      exact hd6
    · have := (scn0 fit).mu
      omega
def spRoadPoss (K : PySem.W.Frag) : Sp := fun vs H Q _ => ∃ (B : Hp) (ro r st sl dl : Addr) (cfg : Cfg) (ws : List Write) (sc : Scene) (n : Nat), vs = [.ref ro] ∧ RoadAt K B H ro r st sl dl cfg ws sc n ∧
  ∀ (l : Addr) (H' : Hp), Same H H' → H' l = some (.lst ((possible ws sc).map fun e => V.str (evS e))) → Q (.ref l) H'
theorem c_Road_possible (T : Txt K mg) : Con P w K mg base 4 (He.ma K (He.ga K "Road") "possible") ["self"] [] (spRoadPoss K) := by
  refine con_of T.d_Road_possible rfl rfl sc_Road_possible (fun _ _ _ _ _ _ us hl => match us, hl with | [_], _ => rfl) (fun vs H Q E h => ?_) (fun cdv A outer s H vs Q E hr h => ?_)
  · obtain ⟨B, ro, r, st, sl, dl, cfg, ws, sc, n, rfl, _⟩ := h
    rfl
  · obtain ⟨B, ro, r, st, sl, dl, cfg, ws, sc, n, rfl, D, q⟩ := h
    obtain ⟨dx, hx⟩ := D.ins
    obtain ⟨vs, t, hsl, S, hn⟩ := D.scenes
    have R := D.rules.mono D.same
    obtain ⟨dy, wl, gl, hri, _⟩ := id R
    refine ⟨_, pss_one (ps_ret (meth_c (pe_fld (pv 0) rfl) T.c_Rules T.t_Rules_possible (c_Rules_possible T) hr (pa_cons (pe_ix ix_list (pe_fld (pv 0) rfl) (pe_un un_neg pe_int) (fun _ _ => rfl)) pa_nil))), ?_⟩
    refine ⟨_, rfl, ro, _, dx, _, _, rfl, hx, T.c_Road, T.n_Road_rules, lk_Road_rules, r, dy, _, rfl, hri, no_Rules_possible, _, rfl, ro, _, dx, _, _, rfl, hx, T.c_Road, T.n_Road_scenes, lk_Road_scenes, _, rfl, sl, _, _, _, rfl, rfl, SqL.of hsl, atI_last _ _, r, st, t, ws, sc, rfl, R, S, D.j.le, fun l H' s' hl => q l H' s' hl⟩
def spRoadDo (K : PySem.W.Frag) : Sp := fun vs H Q _ => ∃ (B : Hp) (ro r st sl dl : Addr) (cfg : Cfg) (ws : List Write) (sc : Scene) (n : Nat) (ev : Ev), vs = [.ref ro, .str (evS ev)] ∧ RoadAt K B H ro r st sl dl cfg ws sc n ∧ ev ∈ possible ws sc ∧
  ∀ (H' : Hp), RoadAt K B H' ro r st sl dl cfg ws (LW.after cfg ws sc ev) (n + 1) → Q .non H'
theorem c_Road_do (T : Txt K mg) : Con P w K mg base 6 (He.ma K (He.ga K "Road") "do") ["self", "event"] [] (spRoadDo K) := by
  refine con_of T.d_Road_do rfl rfl sc_Road_do (fun _ _ _ _ _ _ us hl => match us, hl with | [_, _], _ => rfl) (fun vs H Q E h => ?_) (fun cdv A outer s H vs Q E hr h => ?_)
  · obtain ⟨B, ro, r, st, sl, dl, cfg, ws, sc, n, ev, rfl, _⟩ := h
    rfl
  · obtain ⟨B, ro, r, st, sl, dl, cfg, ws, sc, n, ev, rfl, D, hev, q⟩ := h
    refine ⟨_, pss_cons (ps_if (PW.pt (pw_or (pt_not (pt_val (bi call_isi T.f_isinstance (pa_cons (pv 1) (pa_cons (tyv (n := "str") T.f_str) pa_nil)))))
        (pw_or1 (pt_cmpR op_notIn_seq (pv 1) (meth_c0 (pv 0) T.c_Road T.t_Road_possible (c_Road_possible T) (hr.mono (by decide))) rfl)))) pss_never pss_nil)
      (pss_cons (ps_expr (pe_bm PySem.F.plainAttrs_list PySem.F.slot_list_append PySem.F.type_list_append mt_append (pe_fld (pv 0) rfl) (pa_cons (meth_c (pe_fld (pv 0) rfl) T.c_Rules T.t_Rules_after (c_Rules_after T) hr (pa_cons (pe_ix ix_list (pe_fld (pv 0) rfl) (pe_un un_neg pe_int) (fun _ _ => rfl)) (pa_cons (pv 1) pa_nil))) pa_nil)))
      (pss_one (ps_expr (pe_bm PySem.F.plainAttrs_list PySem.F.slot_list_append PySem.F.type_list_append mt_append (pe_fld (pv 0) rfl) (pa_cons (pv 1) pa_nil))))), ?_⟩
    obtain ⟨dx, hx⟩ := D.ins
    refine ⟨_, rfl, _, _, _, _, true, rfl, .ty "str", .base (.str _), kit_ty (by decide +kernel), true, rfl, iteF ?_⟩
    refine ⟨_, rfl, _, rfl, ro, dx, _, rfl, hx, no_Road_possible, B, ro, r, st, sl, dl, cfg, ws, sc, n, rfl, D, fun l H1 s1 hl => ?_⟩
    refine ⟨l, _, rfl, .inl (SqL.of hl), rfl, ?_, _, rfl, ?_⟩
    · rw [List.all_eq_true]
      intro v hv
      obtain ⟨x, _, rfl⟩ := List.mem_map.mp hv
      rfl
    have hin : inV (.str (evS ev)) ((possible ws sc).map fun e => V.str (evS e)) = true := by
      unfold inV
      rw [List.any_eq_true]
      exact ⟨_, List.mem_map.mpr ⟨ev, hev, rfl⟩, by show (evS ev == evS ev) = true; simp⟩
    show if (!inV (.str (evS ev)) ((possible ws sc).map fun e => V.str (evS e))) = true then _ else _
    rw [hin]
    refine iteF ?_
    have D1 := D.mono s1
    obtain ⟨vs, t, hsl, S, hn⟩ := D1.scenes
    obtain ⟨ds, hdl, hdn⟩ := D1.deeds
    have R := D1.rules.mono D1.same
    obtain ⟨dy, wl, gl, hri, _⟩ := id R
    have hx1 := s1 _ _ hx
    have sm := D1.small
    refine ⟨_, rfl, ro, _, dx, _, _, rfl, hx1, T.c_Road, T.n_Road_scenes, lk_Road_scenes, .inl ⟨rfl, _, SqL.of hsl⟩, _, rfl, ro, _, dx, _, _, rfl, hx1, T.c_Road, T.n_Road_rules, lk_Road_rules, r, dy, _, rfl, hri, no_Rules_after, _, rfl, ro, _, dx, _, _, rfl, hx1, T.c_Road, T.n_Road_scenes, lk_Road_scenes, _, rfl, sl, _, _, _, rfl, rfl, SqL.of hsl, atI_last _ _, _, rfl,
      r, st, t, cfg, ws, sc, ev, rfl, R, D1.set.mono D1.same, D1.fit, S, D1.scn, hev, fun t' H2 s2 S2 => ?_⟩
    have hsl2 := s2 _ _ hsl
    have hdl2 := s2 _ _ hdl
    have hx2 := s2 _ _ hx1
    refine ⟨sl, _, _, rfl, rfl, hsl2, by rw [List.length_append, hn]; exact Nat.lt_of_le_of_lt (show n + 1 ≤ 1001 by omega) (by decide), ?_⟩
    have nsx : ro ≠ sl := ne_of hx2 hsl2 (by intro z; cases z)
    have ndx : ro ≠ dl := ne_of hx2 hdl2 (by intro z; cases z)
    have hx3 : (upd H2 sl (.lst ((vs ++ [.ref t]) ++ [.ref t']))) ro = _ := (upd_ne nsx).trans hx2
    have hdl3 : (upd H2 sl (.lst ((vs ++ [.ref t]) ++ [.ref t']))) dl = some (.lst ds) := (upd_ne D.ne.symm).trans hdl2
    refine ⟨_, rfl, ro, _, dx, _, _, rfl, hx3, T.c_Road, T.n_Road_deeds, lk_Road_deeds, .inl ⟨rfl, _, SqL.of hdl3⟩, _, rfl, dl, _, _, rfl, rfl, hdl3, by rw [hdn]; exact Nat.lt_of_le_of_lt sm (by decide), ?_⟩
    obtain ⟨a1, a2, _⟩ := LW.search_step (sg := 1) (Or.inl rfl) D.fit.ok D.fit.wok D.j hev
    refine q _ { D1 with same := same_put (same_put (D1.same.trans s2) D.fs) D.fd, ins := ⟨dx, (upd_ne ndx).trans hx3⟩, scenes := ⟨vs ++ [.ref t], t', ?_, ?_, ?_⟩, deeds := ⟨_, upd_same, ?_⟩, j := a1, bud := ?_ }
    · rw [upd_ne D.ne, upd_same]
    · exact S2.kt ((KT2.put hsl2 (fun _ z => nomatch z)).trans (KT2.put hdl3 (fun _ z => nomatch z)))
    · rw [List.length_append, hn]
      rfl
    · rw [List.length_append, hdn]
      rfl
    · have := D.bud
      omega
end
end Lw

namespace Lw
open PySem PySem.Spec PyProof.Rows L2
open LW (Hold Mode Pol Cfg Write Side Scene Parts Way Rule Ev G J heardAll finished possible canWrite scene0 side0 fut spk mu arrN clr Settled Dead Led)
section
variable {K : PySem.W.Frag} {B B2 H : Hp} {ro r st sl dl : Addr} {cfg : Cfg} {ws : List Write} {sc : Scene} {n : Nat}
/-- over a greater base: all that stands, but the road's own things -/
theorem RoadAt.big (D : RoadAt K B H ro r st sl dl cfg ws sc n) : ∃ B2, RoadAt K B2 H ro r st sl dl cfg ws sc n ∧ Same B B2 ∧ ∀ b o, H b = some o → b ≠ ro → b ≠ sl → b ≠ dl → B2 b = some o := by
  have sBB : Same B (cutH (cutH (cutH H ro) sl) dl) := fun b o e => cutH_of (cutH_of (cutH_of (D.same _ _ e) (ne_of_none e D.fr)) (ne_of_none e D.fs)) (ne_of_none e D.fd)
  have s2 : Same (cutH (cutH (cutH H ro) sl) dl) H := (cutH_same.trans cutH_same).trans cutH_same
  refine ⟨cutH (cutH (cutH H ro) sl) dl, { D with same := s2, set := D.set.mono sBB, rules := D.rules.mono sBB, fr := ?_, fs := ?_, fd := cutH_at }, sBB, fun b o e n1 n2 n3 => cutH_of (cutH_of (cutH_of e n1) n2) n3⟩
  · unfold cutH
    split
    · rfl
    · split
      · rfl
      · exact if_pos rfl
  · unfold cutH
    split
    · rfl
    · exact if_pos rfl
theorem RoadAt.base (D : RoadAt K B2 H ro r st sl dl cfg ws sc n) (s : Same B B2) (hs : SetAt K B st cfg) (hr : RulesAt K B r st ws) : RoadAt K B H ro r st sl dl cfg ws sc n :=
  { D with same := s.trans D.same, set := hs, rules := hr, fr := s.free D.fr, fs := s.free D.fs, fd := s.free D.fd }
theorem RoadAt.tup (D : RoadAt K B H ro r st sl dl cfg ws sc n) {b : Addr} {xs : List V} (h : H b = some (.tup xs)) : b ≠ ro ∧ b ≠ sl ∧ b ≠ dl := by
  obtain ⟨dx, h1⟩ := D.ins
  obtain ⟨vs, t, h2, _⟩ := D.scenes
  obtain ⟨ds, h3, _⟩ := D.deeds
  exact ⟨ne_of h h1 (by intro z; cases z), ne_of h h2 (by intro z; cases z), ne_of h h3 (by intro z; cases z)⟩
end
section
variable {P : Program} {w : World} {K : PySem.W.Frag} {mg : Str → Option Value} {base : Heap}
/-- a road's property or method that only reads -/
def spStall (K : PySem.W.Frag) : Sp := fun vs H Q _ => ∃ (B : Hp) (ro r st sl dl : Addr) (cfg : Cfg) (ws : List Write) (sc : Scene) (n : Nat), vs = [.ref ro] ∧ RoadAt K B H ro r st sl dl cfg ws sc n ∧ Q (.int sc.stalls) H
theorem c_Road_stall (T : Txt K mg) : Con P w K mg base 1 (pa K "Road" "stall_count") ["self"] [] (spStall K) := by
  refine con_of T.d_Road_stall_count rfl rfl sc_Road_stall_count (fun _ _ _ _ _ _ us hl => match us, hl with | [_], _ => rfl) (fun vs H Q E h => ?_) (fun cdv A outer s H vs Q E hr h => ?_)
  · obtain ⟨B, ro, r, st, sl, dl, cfg, ws, sc, n, rfl, _⟩ := h
    rfl
  · obtain ⟨B, ro, r, st, sl, dl, cfg, ws, sc, n, rfl, D, q⟩ := h
    obtain ⟨dx, hx⟩ := D.ins
    obtain ⟨vs, t, hsl, ⟨sa, wa, sp, wp, I⟩, hn⟩ := D.scenes
    refine ⟨_, pss_one (ps_ret (pe_ix ix_tup (pe_ix ix_list (pe_fld (pv 0) rfl) (pe_un un_neg pe_int) (fun _ _ => rfl)) pe_int (fun _ _ => rfl))), ?_⟩
    exact ⟨_, rfl, ro, _, dx, _, _, rfl, hx, T.c_Road, T.n_Road_scenes, lk_Road_scenes, _, rfl, sl, _, _, _, rfl, rfl, SqL.of hsl, atI_last _ _, t, _, 1, _, rfl, rfl, SqT.of I.top, atI_nat (j := 1) rfl, q⟩
def spOver (K : PySem.W.Frag) : Sp := fun vs H Q _ => ∃ (B : Hp) (ro r st sl dl : Addr) (cfg : Cfg) (ws : List Write) (sc : Scene) (n : Nat), vs = [.ref ro] ∧ RoadAt K B H ro r st sl dl cfg ws sc n ∧ Q (.bl (finished ws sc)) H
theorem c_Road_over (T : Txt K mg) : Con P w K mg base 3 (pa K "Road" "is_over") ["self"] [] (spOver K) := by
  refine con_of T.d_Road_is_over rfl rfl sc_Road_is_over (fun _ _ _ _ _ _ us hl => match us, hl with | [_], _ => rfl) (fun vs H Q E h => ?_) (fun cdv A outer s H vs Q E hr h => ?_)
  · obtain ⟨B, ro, r, st, sl, dl, cfg, ws, sc, n, rfl, _⟩ := h
    rfl
  · obtain ⟨B, ro, r, st, sl, dl, cfg, ws, sc, n, rfl, D, q⟩ := h
    obtain ⟨dx, hx⟩ := D.ins
    obtain ⟨vs, t, hsl, S, hn⟩ := D.scenes
    have R := D.rules.mono D.same
    obtain ⟨dy, wl, gl, hri, _⟩ := id R
    refine ⟨_, pss_one (ps_ret (meth_c (pe_fld (pv 0) rfl) T.c_Rules T.t_Rules_finished (c_Rules_finished T) hr (pa_cons (pe_ix ix_list (pe_fld (pv 0) rfl) (pe_un un_neg pe_int) (fun _ _ => rfl)) pa_nil))), ?_⟩
    exact ⟨_, rfl, ro, _, dx, _, _, rfl, hx, T.c_Road, T.n_Road_rules, lk_Road_rules, r, dy, _, rfl, hri, no_Rules_finished, _, rfl, ro, _, dx, _, _, rfl, hx, T.c_Road, T.n_Road_scenes, lk_Road_scenes, _, rfl, sl, _, _, _, rfl, rfl, SqL.of hsl, atI_last _ _, r, st, t, ws, sc, rfl, R, S, D.j.le, q⟩
def spWayFrom (K : PySem.W.Frag) : Sp := fun vs H Q _ => ∃ (B : Hp) (ro r st sl dl : Addr) (cfg : Cfg) (ws : List Write) (sc : Scene) (n : Nat) (e : Bool), vs = [.ref ro, .int (eV e)] ∧ RoadAt K B H ro r st sl dl cfg ws sc n ∧
  ∀ (l : Addr) (xs : List V), H l = none → xs.length = (sc.way e).length → Q (.ref l) (upd H l (.lst xs))
theorem c_Road_way (T : Txt K mg) : Con P w K mg base 1 (He.ma K (He.ga K "Road") "way_from") ["self", "endpoint"] [] (spWayFrom K) := by
  refine con_of T.d_Road_way_from rfl rfl sc_Road_way_from (fun _ _ _ _ _ _ us hl => match us, hl with | [_, _], _ => rfl) (fun vs H Q E h => ?_) (fun cdv A outer s H vs Q E hr h => ?_)
  · obtain ⟨B, ro, r, st, sl, dl, cfg, ws, sc, n, e, rfl, _⟩ := h
    rfl
  · obtain ⟨B, ro, r, st, sl, dl, cfg, ws, sc, n, e, rfl, D, q⟩ := h
    obtain ⟨dx, hx⟩ := D.ins
    obtain ⟨vs, t, hsl, ⟨sa, wa, sp, wp, I⟩, hn⟩ := D.scenes
    obtain ⟨as, hw, hA⟩ := I.way e
    refine ⟨_, pss_one (ps_ret (ty call_list_of T.f_list (pa_cons (pe_ix ix_tup (pe_ix ix_tup (pe_ix ix_list (pe_fld (pv 0) rfl) (pe_un un_neg pe_int) (fun _ _ => rfl)) pe_int (fun _ _ => rfl)) (pv 1) (fun _ _ => rfl)) pa_nil))), ?_⟩
    refine ⟨_, rfl, ro, _, dx, _, _, rfl, hx, T.c_Road, T.n_Road_scenes, lk_Road_scenes, _, rfl, sl, _, _, _, rfl, rfl, SqL.of hsl, atI_last _ _, t, _, 3, _, rfl, rfl, SqT.of I.top, atI_nat (j := 3) rfl, _, rfl, wa, _, _, _, rfl, rfl, SqT.of I.ways, at_e e, wp e, _, rfl, .inr (SqT.of hw), fun l hl => ?_⟩
    exact q l _ hl (by rw [List.length_map, hA.len])
def spClearing (K : PySem.W.Frag) : Sp := fun vs H Q _ => ∃ (B : Hp) (ro r st sl dl : Addr) (cfg : Cfg) (ws : List Write) (sc : Scene) (n : Nat), vs = [.ref ro] ∧ RoadAt K B H ro r st sl dl cfg ws sc n ∧
  ∀ (H' : Hp), RoadAt K B H' ro r st sl dl cfg ws (clr cfg ws sc).1 (n + (clr cfg ws sc).2) → Q (.int ((clr cfg ws sc).2 : Nat)) H'
theorem arrN_two (cfg : Cfg) (ws : List Write) (sc : Scene) (h : sc.made ≠ 0) : clr cfg ws sc =
    ((arrN cfg ws (!spk ws sc.made) ((arrN cfg ws (spk ws sc.made) (sc.way (spk ws sc.made)).length sc).1.way !spk ws sc.made).length (arrN cfg ws (spk ws sc.made) (sc.way (spk ws sc.made)).length sc).1).1,
     (arrN cfg ws (spk ws sc.made) (sc.way (spk ws sc.made)).length sc).2 + (arrN cfg ws (!spk ws sc.made) ((arrN cfg ws (spk ws sc.made) (sc.way (spk ws sc.made)).length sc).1.way !spk ws sc.made).length (arrN cfg ws (spk ws sc.made) (sc.way (spk ws sc.made)).length sc).1).2) := by
  unfold clr
  rw [if_neg h]
theorem c_Road_clearing (T : Txt K mg) : Con P w K mg base 7 (He.ma K (He.ga K "Road") "clearing") ["self"] [] (spClearing K) := by
  refine con_of T.d_Road_clearing rfl rfl sc_Road_clearing (fun _ _ _ _ _ _ us hl => match us, hl with | [_], _ => rfl) (fun vs H Q E h => ?_) (fun cdv A outer s H vs Q E hr h => ?_)
  · obtain ⟨B, ro, r, st, sl, dl, cfg, ws, sc, n, rfl, _⟩ := h
    rfl
  · obtain ⟨B, ro, r, st, sl, dl, cfg, ws, sc, n, rfl, D, q⟩ := h
    obtain ⟨pov, hpov⟩ := T.over
    have nd := sc_Road_clearing.nd
    refine ⟨_, pss_cons (ps_par (i := 1) (j := 2) rfl nd rfl rfl (by decide) rfl rfl (pa_cons (pe_ix ix_tup (pe_ix ix_list (pe_fld (pv 0) rfl) (pe_un un_neg pe_int) (fun _ _ => rfl)) pe_int (fun _ _ => rfl)) (pa_cons (bi call_len_seq T.f_len (pa_cons (pe_fld (pv 0) rfl) pa_nil)) pa_nil)) rfl)
      (pss_cons (ps_if (pt_cmpR op_eq (pv 1) pe_int (nomark _)) (pss_one (ps_ret pe_int)) pss_nil)
      (pss_cons (ss 3 nd (pe_ix ix_tup (pe_ix ix_list (pe_fld (pe_fld (pv 0) rfl) rfl) (pe_op op_sub (pv 1) pe_int) (fun _ _ => rfl)) pe_int (fun _ _ => rfl)))
      (pss_cons (ps_for PassesOwn.never rfl (pi_tup (pe_tup (pa_cons (pv 3) (pa_cons (pe_op op_sub pe_int (pv 3)) pa_nil)))) (gn 4 nd)
        (pss_one (ps_for PassesOwn.never rfl (pi_range1 rfl T.f_range (pa_cons (bi call_len_seq T.f_len (pa_cons (meth_c (pv 0) T.c_Road T.t_Road_way_from (c_Road_way T) (hr.mono (by decide)) (pa_cons (pv 4) pa_nil)) pa_nil)) pa_nil)) (gn 5 nd)
          (pss_one (ps_if (pt_not (pt_val (prop_c (pv 0) T.c_Road hpov (c_Road_over T) (hr.mono (by decide))))) (pss_one (ps_expr (meth_c (pv 0) T.c_Road T.t_Road_do (c_Road_do T) hr (pa_cons (pe_ix ix_tup (gref T.arrs.1) (pv 4) (fun _ _ => rfl)) pa_nil)))) pss_nil)))))
      (pss_one (ps_ret (pe_op op_sub (bi call_len_seq T.f_len (pa_cons (pe_fld (pv 0) rfl) pa_nil)) (pv 2))))))), ?_⟩
    obtain ⟨dx, hx⟩ := D.ins
    obtain ⟨vs, t, hsl, ⟨sa, wa, sp, wp, I⟩, hn⟩ := D.scenes
    obtain ⟨ds, hdl, hdn⟩ := D.deeds
    refine ⟨_, rfl, ro, _, dx, _, _, rfl, hx, T.c_Road, T.n_Road_scenes, lk_Road_scenes, _, rfl, sl, _, _, _, rfl, rfl, SqL.of hsl, atI_last _ _, t, _, 0, _, rfl, rfl, SqT.of I.top, atI_nat (j := 0) rfl, _, rfl, ro, _, dx, _, _, rfl, hx, T.c_Road, T.n_Road_deeds, lk_Road_deeds, dl, _, rfl, .inl (SqL.of hdl), _, _, rfl, ?_⟩
    refine ⟨_, rfl, rfl, _, rfl, ?_⟩
    by_cases m0 : sc.made = 0
    · have ec : clr cfg ws sc = (sc, 0) := by
        unfold clr
        rw [if_pos m0]
      rw [ec] at q
      exact iteD (by rw [m0]; rfl) (q H D)
    refine iteDn (fun z => m0 (by have := V.int.inj z; omega)) ?_
    rw [hdn]
    have R := D.rules.mono D.same
    obtain ⟨dy, wl, gl, hri, ⟨cs, hcs, hcW⟩, _⟩ := id R
    have hle := D.j.le
    have ew : ws[sc.made - 1]? = some ws[sc.made - 1] := List.getElem?_eq_getElem (by omega)
    generalize ws[sc.made - 1] = wr at ew
    obtain ⟨ca, eca, hwr⟩ := hcW.get ew
    have hwr : H ca = some (.tup [.int (eV wr.ep), .int wr.len, .str (mV wr.mode)]) := hwr
    have es : spk ws sc.made = wr.ep := by
      unfold spk
      rw [ew]
      rfl
    rw [arrN_two cfg ws sc m0, es] at q
    generalize wr.ep = s at q hwr
    refine ⟨_, rfl, ro, _, dx, _, _, rfl, hx, T.c_Road, T.n_Road_rules, lk_Road_rules, r, _, dy, _, _, rfl, hri, T.c_Rules, T.n_Rules_writes, lk_Rules_writes, _, rfl, _, _, rfl, rfl, wl, _, _, _, rfl, rfl, SqL.of hcs, ?_, ca, _, 0, _, rfl, rfl, SqT.of hwr, atI_nat (j := 0) rfl, ?_⟩
    · have : ((sc.made : Nat) : Int) - 1 = ((sc.made - 1 : Nat) : Int) := by omega
      show atI _ (((sc.made : Nat) : Int) - 1) = _
      rw [this]
      exact atI_nat (by rw [List.getElem?_map, eca]; rfl)
    refine ⟨_, rfl, _, rfl, _, _, rfl, rfl, (by show 2 ≤ sizeLine; decide), fun tp htp => ?_⟩
    have D1 := D.mono (same_new (Same.refl H) htp (o := .tup [.int (eV s), .int (1 - eV s)]))
    have htp1 : (upd H tp (.tup [.int (eV s), .int (1 - eV s)])) tp = some (.tup [.int (eV s), .int (1 - eV s)]) := upd_same
    show ∃ a, V.ref tp = V.ref a ∧ _
    generalize hH1 : upd H tp (.tup [.int (eV s), .int (1 - eV s)]) = H1 at D1 htp1
    obtain ⟨B2, D2, sBB, keep⟩ := D1.big
    obtain ⟨n1, n2, n3⟩ := D1.tup htp1
    have htB := keep _ _ htp1 n1 n2 n3
    have hH1' : upd H tp (.tup [.int (eV s), (fun i j => V.int (i - j)) 1 (eV s)]) = H1 := hH1
    try rw [hH1']
    let stg : Nat → Scene × Nat := fun i => match i with
      | 0 => (sc, 0)
      | 1 => arrN cfg ws s (sc.way s).length sc
      | _ => ((arrN cfg ws (!s) ((arrN cfg ws s (sc.way s).length sc).1.way !s).length (arrN cfg ws s (sc.way s).length sc).1).1, (arrN cfg ws s (sc.way s).length sc).2 + (arrN cfg ws (!s) ((arrN cfg ws s (sc.way s).length sc).1.way !s).length (arrN cfg ws s (sc.way s).length sc).1).2)
    -- one sender
    have turns : ∀ (e : Bool) (X : Scene) (m : Nat) (H3 : Hp) (u5 : Option V) (D : Ends), RoadAt K B2 H3 ro r st sl dl cfg ws X m → (∀ u5 H4, RoadAt K B2 H4 ro r st sl dl cfg ws (arrN cfg ws e (X.way e).length X).1 (m + (arrN cfg ws e (X.way e).length X).2) →
          D.nx [some (.ref ro), some (.int (sc.made : Nat)), some (.int (n : Nat)), some (.int (eV s)), some (.int (eV e)), u5] H4) →
        tFor (iRng1 (tCons (tCB (fun xs H Q => ∃ p ys, xs = [.ref p] ∧ (SqL K H p ys ∨ SqT K H p ys) ∧ Q (.int ys.length) H) (tCons (tMeth (He.ga K "Road") "way_from" (spWayFrom K) [] E0 (tVar 0) (tCons (tVar 4) tNil)) tNil)) tNil)) (gName 5)
          (tIfS (tNot (tB (tProp (He.ga K "Road") (spOver K) [] E0 (tVar 0)))) (tDrop (tMeth (He.ga K "Road") "do" (spRoadDo K) [] E0 (tVar 0) (tCons (tOp (rIxT K) (tC (.ref (He.ga K "ARRIVALS"))) (tVar 4)) tNil))) tNext) D
          [some (.ref ro), some (.int (sc.made : Nat)), some (.int (n : Nat)), some (.int (eV s)), some (.int (eV e)), u5] H3 := by
      intro e X m H3 u5 D D3 hD
      obtain ⟨dx3, hx3⟩ := D3.ins
      have wy := D3.scn.way D3.fit e
      refine ⟨_, rfl, ro, dx3, _, rfl, hx3, no_Road_way_from, _, rfl, B2, ro, r, st, sl, dl, cfg, ws, X, m, e, rfl, D3, fun l xs hl hxs => ?_⟩
      have D4 := D3.mono (same_new (Same.refl H3) hl (o := .lst xs))
      refine ⟨l, _, rfl, .inl (SqL.of upd_same), _, rfl, by rw [hxs]; omega, by rw [hxs]; omega, ?_⟩
      rw [show ((xs.length : Nat) : Int).toNat = (X.way e).length by rw [hxs]; omega]
      refine for_range (fun k σ H' => ∃ u5, σ = [some (.ref ro), some (.int (sc.made : Nat)), some (.int (n : Nat)), some (.int (eV s)), some (.int (eV e)), u5] ∧ RoadAt K B2 H' ro r st sl dl cfg ws (arrN cfg ws e k X).1 (m + (arrN cfg ws e k X).2)) ⟨u5, rfl, D4⟩ ?_ ?_
      · rintro k σ H5 hk ⟨v5, rfl, D5⟩
        obtain ⟨dx5, hx5⟩ := D5.ins
        refine ⟨_, rfl, ro, dx5, _, rfl, hx5, B2, ro, r, st, sl, dl, cfg, ws, _, _, rfl, D5, _, rfl, ?_⟩
        cases hf : finished ws (arrN cfg ws e k X).1 with
        | true =>
          have e1 : arrN cfg ws e (k + 1) X = arrN cfg ws e k X := if_pos hf
          refine iteF ⟨_, rfl, ?_⟩
          rw [e1]
          exact D5
        | false =>
          have e1 : arrN cfg ws e (k + 1) X = ((arrN cfg ws e k X).1.arrive cfg e, (arrN cfg ws e k X).2 + 1) := if_neg (by rw [hf]; decide)
          obtain ⟨_, hposs⟩ := LW.arrN_more D3.j hk hf
          refine iteT ⟨_, rfl, ro, dx5, _, rfl, hx5, no_Road_do, _, rfl, He.ga K "ARRIVALS", _, _, _, rfl, rfl, T.arrs.2 _, ?_, B2, ro, r, st, sl, dl, cfg, ws, _, _, .arr e, rfl, D5, hposs, fun H6 D6 => ⟨_, rfl, ?_⟩⟩
          · cases e
            · exact atI_nat (j := 0) rfl
            · exact atI_nat (j := 1) rfl
          · rw [e1]
            exact D6
      · rintro σ H5 ⟨v5, rfl, D5⟩
        exact hD v5 H5 D5
    refine ⟨tp, rfl, ⟨_, SqT.of htp1⟩, for_it walk_tup (fun i σ H' => ∃ u4 u5, σ = [some (.ref ro), some (.int (sc.made : Nat)), some (.int (n : Nat)), some (.int (eV s)), u4, u5] ∧ RoadAt K B2 H' ro r st sl dl cfg ws (stg i).1 (n + (stg i).2)) ⟨none, none, rfl, D2⟩ (fun i σ H' _ ⟨_, _, _, z⟩ => SqT.of (z.same _ _ htB)) ?_ ?_⟩
    · rintro i y σ H3 H4 hi ⟨u4, u5, rfl, D3⟩ ⟨rfl, hy⟩
      match i, hi, hy with
      | 0, _, hy =>
        obtain rfl := Option.some.inj hy
        exact turns s sc n H4 u5 _ D3 fun v5 H5 D5 => ⟨_, v5, rfl, D5⟩
      | 1, _, hy =>
        have hy : V.int (1 - eV s) = y := Option.some.inj hy
        rw [← eV_not] at hy
        subst hy
        refine turns (!s) _ _ H4 u5 _ D3 fun v5 H5 D5 => ⟨_, v5, rfl, ?_⟩
        rw [Nat.add_assoc] at D5
        exact D5
      | k + 2, hi, _ => exact absurd hi (by show ¬ k + 2 < 2; omega)
    · rintro σ H3 ⟨u4, u5, rfl, D3⟩
      obtain ⟨dx3, hx3⟩ := D3.ins
      obtain ⟨ds3, hdl3, hdn3⟩ := D3.deeds
      refine ⟨_, rfl, ro, _, dx3, _, _, rfl, hx3, T.c_Road, T.n_Road_deeds, lk_Road_deeds, dl, _, rfl, .inl (SqL.of hdl3), _, rfl, _, _, rfl, rfl, ?_⟩
      have e9 : ((ds3.length : Nat) : Int) - ((n : Nat) : Int) = ((stg 2).2 : Nat) := by rw [hdn3]; show ((n + (stg 2).2 : Nat) : Int) - _ = _; omega
      show Q (.int (((ds3.length : Nat) : Int) - ((n : Nat) : Int))) H3
      rw [e9]
      exact q H3 (D3.base sBB D.set D.rules)
end
end Lw

namespace Lw
open PySem PySem.Spec PyProof.Rows L2
open LW (Hold Mode Pol Cfg Write Side Scene Parts Way Rule Ev G J heardAll finished possible canWrite scene0 side0 fut spk mu arrN clr Settled Dead Led)
theorem ev_timer (evs : List Ev) : PyData.eqv (.list (evs.map fun e => .str (evS e))) (.list [.str "timer"]) = decide (evs = [.timer]) := by
  match evs with
  | [] => rfl
  | [e] =>
    show ((evS e == "timer") && true) = _
    rw [Bool.eq_iff_iff]
    simp only [Bool.and_true, beq_iff_eq, decide_eq_true_eq]
    constructor
    · intro h
      rw [evS_inj (b := .timer) h]
    · intro h
      rw [(List.cons.inj h).1]
      rfl
  | e :: f :: r =>
    show ((evS e == "timer") && false) = _
    rw [Bool.and_false]
    exact (decide_eq_false (fun h => by cases h)).symm
theorem ev_dp {K : PySem.W.Frag} {H : Hp} : ∀ evs : List Ev, DpAll K H (evs.map fun e => V.str (evS e)) (evs.map fun e => PyData.str (evS e))
  | [] => .nil
  | _ :: es => .cons (.str _) (ev_dp es)
theorem ev_lay : ∀ evs : List Ev, PyData.canLayAll0 (evs.map fun e => PyData.str (evS e)) = true ∧ PyData.depthAll (evs.map fun e => PyData.str (evS e)) ≤ 1
  | [] => ⟨rfl, Nat.zero_le _⟩
  | e :: es => by
    obtain ⟨h1, h2⟩ := ev_lay es
    refine ⟨?_, ?_⟩
    · show (PyData.canLay0 (.str (evS e)) && PyData.canLayAll0 (es.map fun e => PyData.str (evS e))) = true
      rw [h1, Bool.and_true]
      rcases e with _ | (_ | _) | _ <;> decide +kernel
    · show max (PyData.depth (.str (evS e))) (PyData.depthAll (es.map fun e => PyData.str (evS e))) ≤ 1
      have : PyData.depth (.str (evS e)) = 0 := rfl
      omega
theorem ev_shaped (evs : List Ev) : SeqAt.shaped (.list (evs.map fun e => PyData.str (evS e))) = true := by
  obtain ⟨h1, h2⟩ := ev_lay evs
  unfold SeqAt.shaped
  have e1 : PyData.canLay0 (.list (evs.map fun e => PyData.str (evS e))) = true := h1
  have e2 : PyData.depth (.list (evs.map fun e => PyData.str (evS e))) ≤ 64 := by
    show PyData.depthAll _ + 1 ≤ 64
    omega
  rw [e1, decide_eq_true e2]
  rfl
section
variable {P : Program} {w : World} {K : PySem.W.Frag} {mg : Str → Option Value} {base : Heap}
def spSettle (K : PySem.W.Frag) : Sp := fun vs H Q _ => ∃ (B : Hp) (ro r st sl dl : Addr) (cfg : Cfg) (ws : List Write) (sc : Scene) (n : Nat), vs = [.ref ro] ∧ RoadAt K B H ro r st sl dl cfg ws sc n ∧
  ∀ (H' : Hp) (sc' : Scene) (n' : Nat), RoadAt K B H' ro r st sl dl cfg ws sc' n' → Led cfg ws sc sc' → sc'.stalls = sc.stalls → Settled ws sc' → Q .non H'
theorem c_Road_settle (T : Txt K mg) : Con P w K mg base 8 (He.ma K (He.ga K "Road") "settle") ["self"] [] (spSettle K) := by
  refine con_of T.d_Road_settle rfl rfl sc_Road_settle (fun _ _ _ _ _ _ us hl => match us, hl with | [_], _ => rfl) (fun vs H Q E h => ?_) (fun cdv A outer s H vs Q E hr h => ?_)
  · obtain ⟨B, ro, r, st, sl, dl, cfg, ws, sc, n, rfl, _⟩ := h
    rfl
  · obtain ⟨B, ro, r, st, sl, dl, cfg, ws, sc, n, rfl, D, q⟩ := h
    refine ⟨_, pss_one (ps_while PassesOwn.never (pt_cmpR op_gt (meth_c0 (pv 0) T.c_Road T.t_Road_clearing (c_Road_clearing T) hr) pe_int (nomark _)) (pss_one ps_pass)), ?_⟩
    refine ⟨fun m σ H' => ∃ (sc' : Scene) (n' : Nat), σ = [some (.ref ro)] ∧ RoadAt K B H' ro r st sl dl cfg ws sc' n' ∧ Led cfg ws sc sc' ∧ sc'.stalls = sc.stalls ∧ m = (mu cfg ws sc').toNat, ⟨_, sc, n, rfl, D, Led.refl D.j, rfl, rfl⟩, ?_⟩
    rintro m σ H1 ⟨sc1, n1, rfl, D1, l1, st1, rfl⟩
    obtain ⟨dx, hx⟩ := D1.ins
    refine ⟨_, rfl, ro, dx, _, rfl, hx, no_Road_clearing, B, ro, r, st, sl, dl, cfg, ws, sc1, n1, rfl, D1, fun H2 D2 => ⟨_, _, rfl, rfl, _, rfl, ?_⟩⟩
    have ck := LW.clr_ok D1.j
    by_cases c : (0 : Int) < ((clr cfg ws sc1).2 : Nat)
    · rw [decide_eq_true c]
      have m0 := LW.mu_nn D1.fit.ok D1.fit.wok ck.j
      have m1 := ck.mu
      refine iteT ⟨fun σ' H' => σ' = [some (.ref ro)] ∧ RoadAt K B H' ro r st sl dl cfg ws (clr cfg ws sc1).1 (n1 + (clr cfg ws sc1).2), fun σ' H' z => ⟨_, ?_, (clr cfg ws sc1).1, _, z.1, z.2, l1.trans ck.led, ck.stalls.trans st1, rfl⟩, rfl, D2⟩
      omega
    · rw [decide_eq_false c]
      have c0 : (clr cfg ws sc1).2 = 0 := by omega
      obtain ⟨n1, n2⟩ := ck.nil c0
      rw [n1] at D2
      exact iteF (q H2 sc1 _ D2 l1 st1 n2)
def spEndTurn (K : PySem.W.Frag) : Sp := fun vs H Q _ => ∃ (B : Hp) (ro r st sl dl : Addr) (cfg : Cfg) (ws : List Write) (sc : Scene) (n : Nat), vs = [.ref ro] ∧ RoadAt K B H ro r st sl dl cfg ws sc n ∧
  ∀ (H' : Hp) (sc' : Scene) (n' : Nat), RoadAt K B H' ro r st sl dl cfg ws sc' n' → Led cfg ws sc sc' → (finished ws sc' = true ∨ canWrite ws sc' = true) → Q .non H'
theorem c_Road_end_turn (T : Txt K mg) : Con P w K mg base 9 (He.ma K (He.ga K "Road") "end_turn") ["self"] [] (spEndTurn K) := by
  refine con_of T.d_Road_end_turn rfl rfl sc_Road_end_turn (fun _ _ _ _ _ _ us hl => match us, hl with | [_], _ => rfl) (fun vs H Q E h => ?_) (fun cdv A outer s H vs Q E hr h => ?_)
  · obtain ⟨B, ro, r, st, sl, dl, cfg, ws, sc, n, rfl, _⟩ := h
    rfl
  · obtain ⟨B, ro, r, st, sl, dl, cfg, ws, sc, n, rfl, D, q⟩ := h
    obtain ⟨tt, gt⟩ := T.s_TIMER
    refine ⟨_, pss_cons (ps_expr (meth_c0 (pv 0) T.c_Road T.t_Road_settle (c_Road_settle T) hr))
      (pss_one (ps_if (pt_cmpR (op_eqD hr.units) (meth_c0 (pv 0) T.c_Road T.t_Road_possible (c_Road_possible T) (hr.mono (by decide))) (pe_lst (pa_cons (gstr gt) pa_nil)) (nomark _))
        (pss_cons (ps_expr (meth_c (pv 0) T.c_Road T.t_Road_do (c_Road_do T) (hr.mono (by decide)) (pa_cons (gstr gt) pa_nil))) (pss_one (ps_expr (meth_c0 (pv 0) T.c_Road T.t_Road_settle (c_Road_settle T) hr)))) pss_nil)), ?_⟩
    obtain ⟨dx, hx⟩ := D.ins
    refine ⟨_, rfl, ro, dx, _, rfl, hx, no_Road_settle, B, ro, r, st, sl, dl, cfg, ws, sc, n, rfl, D, fun H1 sc1 n1 D1 l1 st1 se1 => ?_⟩
    obtain ⟨dx1, hx1⟩ := D1.ins
    refine ⟨_, rfl, ro, dx1, _, rfl, hx1, no_Road_possible, B, ro, r, st, sl, dl, cfg, ws, sc1, n1, rfl, D1, fun l H2 s2 hl => ⟨(by show 1 ≤ sizeLine; decide), fun e0 he0 => ?_⟩⟩
    have D2 := D1.mono (s2.trans (same_new (Same.refl _) he0 (o := .lst [.str "timer"])))
    refine ⟨.list ((possible ws sc1).map fun e => PyData.str (evS e)), .list [.str "timer"], .lst (SqL.of (upd_new he0 hl)) (ev_dp _), .lst (SqL.of upd_same) (.cons (.str _) .nil), ev_shaped _, ev_shaped [.timer], _, rfl, ?_⟩
    rw [ev_timer]
    obtain ⟨dx2, hx2⟩ := D2.ins
    by_cases c : possible ws sc1 = [.timer]
    · have dead := LW.dead_iff.mp c
      refine iteD c ⟨_, rfl, ro, dx2, _, rfl, hx2, no_Road_do, B, ro, r, st, sl, dl, cfg, ws, sc1, n1, .timer, rfl, D2, by rw [c]; exact List.mem_singleton.mpr rfl, fun H3 D3 => ?_⟩
      obtain ⟨dx3, hx3⟩ := D3.ins
      have fo := LW.fire_ok D1.fit.ok D1.fit.wok D1.j dead
      refine ⟨_, rfl, ro, dx3, _, rfl, hx3, no_Road_settle, B, ro, r, st, sl, dl, cfg, ws, _, _, rfl, D3, fun H4 sc4 n4 D4 l4 st4 se4 => ?_⟩
      have l4 : Led cfg ws (sc1.fire cfg (spk ws sc1.made)) sc4 := l4
      have st4 : sc4.stalls = (sc1.fire cfg (spk ws sc1.made)).stalls := st4
      have nd4 : ¬ Dead ws sc4 := by
        refine LW.no_second D1.fit.ok D1.fit.wok fo D4.j l4.made ?_
        have a1 := l4.at1
        have a2 := l4.at2
        rw [st4] at a1
        exact Prod.ext (by omega) a2
      refine q H4 sc4 n4 D4 (l1.trans (fo.led.trans l4)) ?_
      rcases LW.settled_cases se4 with z | z
      · exact absurd z nd4
      · exact z
    · refine iteDn c (q _ sc1 n1 D2 l1 ?_)
      rcases LW.settled_cases se1 with z | z
      · exact absurd (LW.dead_iff.mpr z) c
      · exact z
end
end Lw

namespace Lw
open PySem PySem.Spec PyProof.Rows L2
open LW (Hold Mode Pol Cfg Write Side Scene Parts Way Rule Ev G J heardAll finished possible canWrite scene0 side0 fut spk mu arrN clr Settled Dead Led Played PlayedC TurnDone total PlanP bnd epAt)
section
variable {P : Program} {w : World} {K : PySem.W.Frag} {mg : Str → Option Value} {base : Heap}
def spPlay (K : PySem.W.Frag) : Sp := fun vs H Q _ => ∃ (B : Hp) (ro r st sl dl o : Addr) (cfg : Cfg) (ws : List Write) (sc : Scene) (n : Nat) (ks : List Int), vs = [.ref ro, .ref o] ∧ RoadAt K B H ro r st sl dl cfg ws sc n ∧ H o = some (.lst (ks.map V.int)) ∧ PlanP ws ws.length ks ∧
  ∀ (H' B' : Hp) (ro' r' sl' dl' : Addr) (sc' : Scene) (n' : Nat), Same H H' → RoadAt K B' H' ro' r' st sl' dl' cfg ws sc' n' → sc'.stalls = total cfg ws ks → Q (.ref ro') H'
theorem b_Road_play (T : Txt K mg) : BodyQ P w K mg base 9 N_Road_play d_Road_play (spPlay K) := by
  intro cdv A outer s H vs Q E hr h
  obtain ⟨B, ro, r, st, sl, dl, o, cfg, ws, sc, n, ks, rfl, D, ho, hp, q⟩ := h
  obtain ⟨tw, gw⟩ := T.s_WRITE
  have nd := sc_Road_play.nd
  refine ⟨_, pss_cons (ss 2 nd (make_c T.m_Road (c_Road_init T) (hr.mono (by decide)) T.g_Road (pa_cons (pe_fld (pe_fld (pv 0) rfl) rfl) (pa_cons (pe_fld (pe_fld (pv 0) rfl) rfl) pa_nil))))
    (pss_cons (ss 3 nd (call_c (c_normal_order T) (hr.mono (by decide)) T.g_normal_order (pa_cons (pe_fld (pe_fld (pv 0) rfl) rfl) (pa_cons (pv 1) pa_nil))))
    (pss_cons (ps_for PassesOwn.never rfl (pi_enum rfl T.f_enumerate (pa_cons (pe_fld (pe_fld (pv 0) rfl) rfl) pa_nil)) (pg_tup rfl (pgs_cons (gn 4 nd) (pgs_cons (gn 5 nd) pgs_nil)))
      (C8.pss_cut (ps_if (PW.pt (pw_and (pt_cmpR op_gt (pv 4) pe_int (nomark _)) (pw_and1 (pt_cmpR op_ne (pe_ix ix_tup (pv 5) pe_int (fun _ _ => rfl)) (pe_ix ix_tup (pe_ix ix_list (pe_fld (pe_fld (pv 0) rfl) rfl) (pe_op op_sub (pv 4) pe_int) (fun _ _ => rfl)) pe_int (fun _ _ => rfl)) (nomark _)))))
        (pss_one (ps_expr (meth_c0 (pv 2) T.c_Road T.t_Road_end_turn (c_Road_end_turn T) hr))) pss_nil)
      (pss_cons (ps_for PassesOwn.never rfl (pi_range1 rfl T.f_range (pa_cons (pe_ix ix_list (pv 3) (pv 4) (fun _ _ => rfl)) pa_nil)) (gn 6 nd) (pss_one (ps_expr (meth_c0 (pv 2) T.c_Road T.t_Road_clearing (c_Road_clearing T) (hr.mono (by decide))))))
      (pss_one (ps_expr (meth_c (pv 2) T.c_Road T.t_Road_do (c_Road_do T) (hr.mono (by decide)) (pa_cons (gstr gw) pa_nil)))))))
    (pss_cons (ps_expr (meth_c0 (pv 2) T.c_Road T.t_Road_end_turn (c_Road_end_turn T) hr)) (pss_one (ps_ret (pv 2)))))), ?_⟩
  obtain ⟨dx, hx⟩ := D.ins
  have R := D.rules.mono D.same
  obtain ⟨dy, wl, gl, hri, hW, _⟩ := id R
  obtain ⟨cs, hcs, hcW⟩ := id hW
  have fit := D.fit
  refine ⟨_, rfl, ro, _, dx, _, _, rfl, hx, T.c_Road, T.n_Road_rules, lk_Road_rules, r, _, dy, _, _, rfl, hri, T.c_Rules, T.n_Rules_setting, lk_Rules_setting, _, rfl, ro, _, dx, _, _, rfl, hx, T.c_Road, T.n_Road_rules, lk_Road_rules, r, _, dy, _, _, rfl, hri, T.c_Rules, T.n_Rules_writes, lk_Rules_writes, fun x dd hx0 hdd0 hn => ?_⟩
  refine ⟨x, dd, st, wl, cfg, ws, H, rfl, upd_same, made_same hx0 hdd0 hn (Same.refl H), hx0, D.set.mono D.same, hW, fit, fun B1 H1 r1 sl1 dl1 sB1 D1 => ⟨rfl, ?_⟩⟩
  have s1 := sB1.trans D1.same
  refine ⟨_, rfl, ro, _, dx, _, _, rfl, s1 _ _ hx, T.c_Road, T.n_Road_rules, lk_Road_rules, r, _, dy, _, _, rfl, s1 _ _ hri, T.c_Rules, T.n_Rules_writes, lk_Rules_writes, _, rfl, wl, o, ws, ks, rfl, hW.mono s1, Nat.le_trans fit.n5 (by decide), fit.wr, s1 _ _ ho, hp, fun l H2 s2 hl0 hl2 => ?_⟩
  have D2 := D1.mono s2
  obtain ⟨B3, D3, sB3, keep⟩ := D2.big
  have hl3 : B3 l = some (.lst (ks.map V.int)) := by
    obtain ⟨e1, h1⟩ := D1.ins
    obtain ⟨v1, t1, h2, _⟩ := D1.scenes
    obtain ⟨ds1, h3, _⟩ := D1.deeds
    exact keep _ _ hl2 (ne_of_none h1 hl0).symm (ne_of_none h2 hl0).symm (ne_of_none h3 hl0).symm
  have sH3 : Same H B3 := sB1.trans sB3
  clear keep
  have sH2 := sH3.trans D3.same
  refine ⟨_, rfl, ro, _, dx, _, _, rfl, sH2 _ _ hx, T.c_Road, T.n_Road_rules, lk_Road_rules, r, _, dy, _, _, rfl, sH2 _ _ hri, T.c_Rules, T.n_Rules_writes, lk_Rules_writes, wl, _, rfl, SqL.of (sH2 _ _ hcs), for_it walk_enum (fun i σ H' => ∃ (sc' : Scene) (n' : Nat) (u4 u5 u6 : Option V), σ = [some (.ref ro), some (.ref o), some (.ref x), some (.ref l), u4, u5, u6] ∧
    RoadAt K B3 H' x r1 st sl1 dl1 cfg ws sc' n' ∧ Played cfg ws ks sc' ∧ sc'.made = i) ⟨scene0, 0, none, none, none, rfl, D3, LW.played0 fit.ok, rfl⟩ (fun i σ H' _ ⟨_, _, _, _, _, _, z, _⟩ => SqL.of (z.same _ _ (sH3 _ _ hcs))) ?_ ?_⟩
  · rintro i y σ H4 H5 hi ⟨sc1, n1, u4, u5, u6, rfl, D4, pl, hm⟩ ⟨Tp, y1, y2, rfl, nT, rfl, ey, ez⟩
    have ey : V.int (i : Nat) = y1 := Option.some.inj ey
    subst ey
    obtain ⟨ca, eca, rfl⟩ := ref_at ez
    obtain ⟨wr, ew, hwr⟩ := hcW.get' eca
    have hwr : H ca = some (.tup [.int (eV wr.ep), .int wr.len, .str (mV wr.mode)]) := hwr
    have hil : i < ws.length := (List.getElem?_eq_some_iff.mp ew).1
    refine ⟨Tp, _, rfl, SqT.of upd_same, rfl, _, _, rfl, _, _, rfl, rfl, ?_⟩
    have D5 := D4.mono (same_new (Same.refl _) nT (o := .tup [.int (i : Nat), .ref ca]))
    generalize upd H4 Tp (.tup [.int (i : Nat), .ref ca]) = H5 at D5
    have sH5 := sH3.trans D5.same
    obtain ⟨k, ek⟩ : ∃ k, ks[i]? = some k := by
      have hik : i < ks.length := by rw [hp.1]; exact hil
      exact ⟨ks[i], List.getElem?_eq_getElem hik⟩
    have hb := hp.2 i _ ek
    refine ⟨fun σ H' => σ = [some (.ref ro), some (.ref o), some (.ref x), some (.ref l), some (.int (i : Nat)), some (.ref ca), u6] ∧ ∃ (sc2 : Scene) (n2 : Nat), RoadAt K B3 H' x r1 st sl1 dl1 cfg ws sc2 n2 ∧ Played cfg ws ks sc2 ∧ sc2.made = i ∧ heardAll ws sc2 wr.ep = true ∧ (wr.ep ≠ spk ws sc2.made → k = 0) ∧ (0 < k → 0 < i ∧ wr.ep = spk ws i), ?_, ?_⟩
    · refine ⟨_, rfl, _, _, rfl, rfl, _, rfl, ?_⟩
      by_cases i0 : (0 : Int) < (i : Int)
      · have ew0 : ws[i - 1]? = some ws[i - 1] := List.getElem?_eq_getElem (by omega)
        generalize ws[i - 1] = wr0 at ew0
        obtain ⟨ca0, eca0, hwr0⟩ := hcW.get ew0
        have hwr0 : H ca0 = some (.tup [.int (eV wr0.ep), .int wr0.len, .str (mV wr0.mode)]) := hwr0
        have es : spk ws i = wr0.ep := by
          unfold spk
          rw [ew0]
          rfl
        have eb : bnd ws i = if wr0.ep = wr.ep then 2 else 0 := by
          unfold bnd epAt
          rw [ew0, ew]
          by_cases c : wr0.ep = wr.ep
          · rw [if_pos ⟨by omega, by rw [Option.map_some, Option.map_some, c]⟩, if_pos c]
          · rw [if_neg (fun z => c (Option.some.inj z.2)), if_neg c]
        refine iteD i0 ⟨_, rfl, ca, _, 0, _, rfl, rfl, SqT.of (sH5 _ _ hwr), atI_nat (j := 0) rfl, _, rfl, ro, _, dx, _, _, rfl, sH5 _ _ hx, T.c_Road, T.n_Road_rules, lk_Road_rules, r, _, dy, _, _, rfl, sH5 _ _ hri, T.c_Rules, T.n_Rules_writes, lk_Rules_writes, _, rfl, _, _, rfl, rfl, wl, _, _, _, rfl, rfl, SqL.of (sH5 _ _ hcs), ?_, ca0, _, 0, _, rfl, rfl, SqT.of (sH5 _ _ hwr0), atI_nat (j := 0) rfl, rfl, _, rfl, ?_⟩
        · have : ((i : Nat) : Int) - 1 = ((i - 1 : Nat) : Int) := by omega
          show atI _ (((i : Nat) : Int) - 1) = _
          rw [this]
          exact atI_nat (by rw [List.getElem?_map, eca0]; rfl)
        by_cases c : wr.ep = wr0.ep
        · rw [c]
          have : (!decide (V.int (eV wr0.ep) = V.int (eV wr0.ep))) = false := by simp
          rw [this]
          refine iteF ⟨rfl, sc1, n1, D5, pl, hm, ?_, fun z => absurd ?_ z, fun _ => ⟨by omega, es.symm⟩⟩
          · have := LW.J.speaks D5.j
            rw [hm, es] at this
            exact this
          · rw [hm, es]
        · have : (!decide (V.int (eV wr.ep) = V.int (eV wr0.ep))) = true := by
            rw [decide_eq_false (fun z => c (eV_inj (V.int.inj z)))]
            rfl
          rw [this]
          obtain ⟨dx5, hx5⟩ := D5.ins
          refine iteT ⟨_, rfl, x, dx5, _, rfl, hx5, no_Road_end_turn, B3, x, r1, st, sl1, dl1, cfg, ws, sc1, n1, rfl, D5, fun H6 sc6 n6 D6 l6 fc => ⟨rfl, sc6, n6, D6, ?_, l6.made.trans hm, ?_, fun _ => ?_, fun z => ?_⟩⟩
          · refine (LW.played_led hp.1 pl (fun w' hw' => ?_) l6).1
            rw [hm, ew] at hw'
            obtain rfl := Option.some.inj hw'
            rw [hm, es]
            exact c
          · have nf : finished ws sc6 = false := LW.notfin (by rw [l6.made, hm]; exact hil)
            rcases fc with z | z
            · rw [nf] at z
              cases z
            · unfold canWrite at z
              rw [l6.made, hm, ew] at z
              exact z
          · rw [eb, if_neg (fun z => c z.symm)] at hb
            omega
          · rw [eb, if_neg (fun z => c z.symm)] at hb
            omega
      · have hi0 : i = 0 := by omega
        subst hi0
        have eb : bnd ws 0 = 0 := by
          unfold bnd
          rw [if_neg (fun z => absurd z.1 (by decide))]
        rw [eb] at hb
        refine iteDn i0 (iteF ⟨rfl, sc1, n1, D5, pl, hm, ?_, fun _ => by omega, fun z => absurd z (by omega)⟩)
        have z0 := D5.j.zero hm
        unfold heardAll
        rw [hm]
        have : (sc1.side wr.ep).heard = 0 := by
          cases wr.ep
          · exact z0.2.2.1
          · exact z0.2.2.2
        rw [this]
        rfl
    · rintro _ H6 ⟨rfl, sc2, n2, D6, pl2, hm2, hh2, hk0, hkp⟩
      have sH6 := D6.same
      refine ⟨_, rfl, _, rfl, l, _, _, _, rfl, rfl, SqL.of (sH6 _ _ hl3), atI_nat (j := i) (v := .int k) (by rw [List.getElem?_map, ek]; rfl), k, rfl, by omega, ?_, ?_⟩
      · have : bnd ws i ≤ 2 := by
          unfold bnd
          split <;> decide
        omega
      refine for_range (fun j σ H' => ∃ (sc3 : Scene) (n3 : Nat) (u6 : Option V), σ = [some (.ref ro), some (.ref o), some (.ref x), some (.ref l), some (.int (i : Nat)), some (.ref ca), u6] ∧ RoadAt K B3 H' x r1 st sl1 dl1 cfg ws sc3 n3 ∧ PlayedC cfg ws ks j sc3 ∧ sc3.made = i ∧ heardAll ws sc3 wr.ep = true) ⟨sc2, n2, u6, rfl, D6, pl2.c, hm2, hh2⟩ ?_ ?_
      · rintro j σ H7 hj ⟨sc3, n3, v6, rfl, D7, pc, hm3, hh3⟩
        obtain ⟨dx7, hx7⟩ := D7.ins
        have kp := hkp (by omega)
        refine ⟨_, rfl, x, dx7, _, rfl, hx7, no_Road_clearing, B3, x, r1, st, sl1, dl1, cfg, ws, sc3, n3, rfl, D7, fun H8 D8 => ?_⟩
        have ck := LW.clr_ok D7.j
        refine ⟨_, _, _, rfl, D8, LW.playedC_clr pc (by omega) (by omega), ck.made.trans hm3, ?_⟩
        have := LW.J.speaks D8.j
        rw [ck.made, hm3, ← kp.2] at this
        exact this
      · rintro σ H7 ⟨sc3, n3, v6, rfl, D7, pc, hm3, hh3⟩
        obtain ⟨dx7, hx7⟩ := D7.ins
        have ew3 : ws[sc3.made]? = some wr := by rw [hm3]; exact ew
        refine ⟨_, rfl, x, dx7, _, rfl, hx7, no_Road_do, B3, x, r1, st, sl1, dl1, cfg, ws, sc3, n3, .write, rfl, D7, LW.write_possible ew3 hh3, fun H8 D8 => ?_⟩
        have ea : LW.after cfg ws sc3 .write = sc3.write cfg wr := by
          show (match ws[sc3.made]? with
            | some w => sc3.write cfg w
            | none => sc3) = _
          rw [ew3]
        rw [ea] at D8
        obtain ⟨p1, p2⟩ := LW.playedC_write fit.ok fit.wok ew3 (by rw [hm3]; exact ek) hb.1 pc hh3 (fun z => hk0 (by rw [hm2]; rw [hm3] at z; exact z))
        exact ⟨_, _, _, _, _, rfl, D8, p1, by rw [p2, hm3]⟩
  · rintro σ H4 ⟨sc1, n1, u4, u5, u6, rfl, D4, pl, hm⟩
    rw [List.length_map, hcW.len] at hm
    obtain ⟨dx4, hx4⟩ := D4.ins
    refine ⟨_, rfl, x, dx4, _, rfl, hx4, no_Road_end_turn, B3, x, r1, st, sl1, dl1, cfg, ws, sc1, n1, rfl, D4, fun H6 sc6 n6 D6 l6 fc => ⟨_, rfl, ?_⟩⟩
    have en : ∀ m, m = ws.length → ws[m]? = none := fun m e => List.getElem?_eq_none (by omega)
    have p6 := (LW.played_led hp.1 pl (fun w' hw' => by rw [en _ hm] at hw'; cases hw') l6).1
    refine q H6 B3 x r1 sl1 dl1 sc6 n6 (sH3.trans D6.same) D6 (LW.played_end p6 ?_)
    rcases fc with z | z
    · exact z
    · unfold canWrite at z
      rw [en _ (l6.made.trans hm)] at z
      cases z
theorem c_Road_play (T : Txt K mg) : Con P w K mg base 10 (He.ma K (He.ga K "Road") "play") ["self", "order"] [] (spPlay K) := by
  obtain ⟨fd, F⟩ := T.d_Road_play
  have G : FnOk P w K mg base CX0 10 (d_Road_play.adr K) fd ["self", "order"] (spPlay K) := fnok_of F sc_Road_play (fun vs H Q E h => by
    obtain ⟨B, ro, r, st, sl, dl, o, cfg, ws, sc, n, ks, rfl, _⟩ := h
    rfl) (b_Road_play T)
  obtain ⟨ds, r, b⟩ := FunD.binds1 (ps := ["self", "order"]) F 2 1 (fun z => nomatch z) rfl (fun Td kV doc pm an cdv ct us its h1 h2 => match us, its, h1, h2 with
    | [a, b], [c], _, _ => ⟨_, rfl, rfl⟩)
  exact ⟨fd, ds, G, r, b, F.kp⟩
end
end Lw

/-! Heaps without their tables of code objects; a scene's key. -/
namespace Lw
open PySem PySem.Spec PyProof.Rows L2 LamX
open LW (Hold Mode Pol Cfg Write Side Scene Parts Way Rule Ev possible val scene0 mu)
/-! ### without the tables -/
def isTbl : Option HO → Bool
  | some (.tbl _) => true
  | _ => false
def cut (H : Hp) : Hp := fun b => if isTbl (H b) = true then none else H b
theorem isTbl_iff {o : HO} : isTbl (some o) = false ↔ ∀ ps, o ≠ .tbl ps := by
  cases o <;> simp [isTbl]
section
variable {H H' : Hp} {K : PySem.W.Frag}
theorem cut_some {b : Addr} {o : HO} : cut H b = some o ↔ H b = some o ∧ ∀ ps, o ≠ .tbl ps := by
  unfold cut
  split
  · rename_i h
    constructor
    · intro z; cases z
    · rintro ⟨z, n⟩
      rw [z, isTbl_iff.mpr n] at h
      cases h
  · rename_i h
    constructor
    · intro z
      rw [z] at h
      exact ⟨z, isTbl_iff.mp (by simpa using h)⟩
    · exact fun z => z.1
theorem cut_none {b : Addr} (h : H b = none) : cut H b = none := by
  unfold cut
  rw [h] <;> simp
theorem cut_same (H : Hp) : Same (cut H) H := fun b o h => (cut_some.mp h).1
theorem cut_en (H : Hp) : ExtN H (cut H) := fun b o h n => cut_some.mpr ⟨h, n⟩
theorem same_cut (h : ExtN H H') : Same (cut H) H' := fun b o q => h b o (cut_some.mp q).1 (cut_some.mp q).2
theorem en_of_same (h : Same H H') : ExtN H H' := fun b o q _ => h b o q
theorem cut_cut (h : ExtN H H') : ExtN (cut H) (cut H') := fun b o q n => cut_some.mpr ⟨h b o (cut_some.mp q).1 n, n⟩
theorem cut_sub (h : ExtN H H') : Same (cut H) (cut H') := fun b o q => cut_some.mpr ⟨h b o (cut_some.mp q).1 (cut_some.mp q).2, (cut_some.mp q).2⟩
/-- tables have no place in B -/
def NoT (B : Hp) : Prop := ∀ b ps, B b ≠ some (.tbl ps)
theorem cut_noT (H : Hp) : NoT (cut H) := fun b ps z => (cut_some.mp z).2 ps rfl
theorem NoT.same {B : Hp} (n : NoT B) (s : Same B H) (e : ExtN H H') : Same B H' := fun b o h => e b o (s b o h) fun ps z => n b ps (z ▸ h)
theorem KT2.en (e : ExtN H H') : KT2 H H' := ⟨fun a xs h => e a _ h fun _ z => nomatch z⟩
theorem PolAt.en {a : Addr} {p : Pol} (h : PolAt K H a p) (s : ExtN H H') : PolAt K H' a p := by
  obtain ⟨dx, h⟩ := h
  exact ⟨dx, s _ _ h fun _ z => nomatch z⟩
theorem SetAt.en {a : Addr} {c : Cfg} (h : SetAt K H a c) (s : ExtN H H') : SetAt K H' a c := by
  obtain ⟨dx, t, p0, p1, h1, h2, h3, h4⟩ := h
  exact ⟨dx, t, p0, p1, s _ _ h1 (fun _ z => nomatch z), s _ _ h2 (fun _ z => nomatch z), h3.en s, h4.en s⟩
theorem ConvAt.en {a : Addr} {ws : List Write} (h : ConvAt H a ws) (s : ExtN H H') : ConvAt H' a ws := by
  obtain ⟨ts, h1, h2⟩ := h
  exact ⟨ts, s _ _ h1 (fun _ z => nomatch z), h2.mono fun t w q => s _ _ q fun _ z => nomatch z⟩
theorem GivenAt.en {a : Addr} {ws : List Write} (h : GivenAt H a ws) (s : ExtN H H') : GivenAt H' a ws := by
  obtain ⟨as, h1, h2⟩ := h
  exact ⟨as, s _ _ h1 (fun _ z => nomatch z), h2.mono fun _ _ q => s _ _ q fun _ z => nomatch z⟩
theorem RulesAt.en {r st : Addr} {ws : List Write} (h : RulesAt K H r st ws) (s : ExtN H H') : RulesAt K H' r st ws := by
  obtain ⟨dx, wl, gl, h1, h2, h3⟩ := h
  exact ⟨dx, wl, gl, s _ _ h1 (fun _ z => nomatch z), h2.en s, h3.en s⟩
end
/-! ### a scene's key -/
structure SKey where
  made : Nat
  s0 : Side
  s1 : Side
  w0 : Way
  w1 : Way
def SKey.of (sc : Scene) : SKey := ⟨sc.made, sc.s0, sc.s1, sc.w0, sc.w1⟩
noncomputable instance : DecidableEq SKey := fun a b => Classical.propDecidable _
def encSide (S : Side) : NestedKey := .tup [.num S.waiting, .num (b01 S.corked), .num S.out, .num S.covered, .num S.heard, .num S.fulls, .num S.arrived, .num S.mark]
def encPair (x : Int × Int) : NestedKey := .tup [.num x.1, .num x.2]
def encWay (W : Way) : NestedKey := .tup (W.map encPair)
theorem encSide_inj {x y : Side} (h : encSide x = encSide y) : x = y := by
  rcases x with ⟨a, b, c, d, e, f, g, i⟩
  rcases y with ⟨a', b', c', d', e', f', g', i'⟩
  injection h with h
  injection h with h1 h
  injection h with h2 h
  injection h with h3 h
  injection h with h4 h
  injection h with h5 h
  injection h with h6 h
  injection h with h7 h
  injection h with h8 h
  injection h1 with h1
  injection h2 with h2
  injection h3 with h3
  injection h4 with h4
  injection h5 with h5
  injection h6 with h6
  injection h7 with h7
  injection h8 with h8
  simp only at h1 h2 h3 h4 h5 h6 h7 h8
  rw [h1, b01_inj h2, h3, h4, h5, h6, h7, h8]
theorem encPair_inj {x y : Int × Int} (h : encPair x = encPair y) : x = y := by
  injection h with h
  injection h with h1 h
  injection h with h2 h
  injection h1 with h1
  injection h2 with h2
  exact Prod.ext h1 h2
theorem encWay_inj : ∀ {x y : Way}, x.map encPair = y.map encPair → x = y
  | [], [], _ => rfl
  | [], _ :: _, h => by cases h
  | _ :: _, [], h => by cases h
  | a :: as, b :: bs, h => by
    injection h with h1 h
    rw [encPair_inj h1, encWay_inj h]
theorem depth_way : ∀ W : Way, NestedKey.depthAll (W.map encPair) ≤ 3
  | [] => by simp [NestedKey.depthAll]
  | a :: as => by
    have h := depth_way as
    have h2 : (encPair a).depth ≤ 3 := Nat.le_of_ble_eq_true rfl
    rw [List.map_cons]
    simp only [NestedKey.depthAll]
    omega
def ES : Enc SKey where
  enc k := .tup [.num k.made, .tup [encSide k.s0, encSide k.s1], .tup [encWay k.w0, encWay k.w1]]
  inj := fun x y h => by
    rcases x with ⟨a, b, c, d, e⟩
    rcases y with ⟨a', b', c', d', e'⟩
    injection h with h
    injection h with h1 h
    injection h with h2 h
    injection h with h3 h
    injection h1 with h1
    injection h2 with h2
    injection h2 with h4 h2
    injection h2 with h5 h2
    injection h3 with h3
    injection h3 with h6 h3
    injection h3 with h7 h3
    injection h6 with h6
    injection h7 with h7
    simp only at h1 h4 h5 h6 h7
    rw [Int.ofNat.inj h1, encSide_inj h4, encSide_inj h5, encWay_inj h6, encWay_inj h7]
  deep := fun k => by
    have h0 := depth_way k.w0
    have h1 := depth_way k.w1
    have h2 : (encSide k.s0).depth ≤ 3 := Nat.le_of_ble_eq_true rfl
    have h3 : (encSide k.s1).depth ≤ 3 := Nat.le_of_ble_eq_true rfl
    simp only [encWay, NestedKey.depthAll, NestedKey.depth]
    omega
section
variable {H : Hp}
theorem SideT.nk {a : Addr} {S : Side} (h : SideT H a S) : NK H (.ref a) (encSide S) := .tup h (.cons (.int _) (.cons (.bl _) (.cons (.int _) (.cons (.int _) (.cons (.int _) (.cons (.int _) (.cons (.int _) (.cons (.int _) .nil))))))))
theorem PairT.nk {a : Addr} {x : Int × Int} (h : PairT H a x) : NK H (.ref a) (encPair x) := .tup h (.cons (.int _) (.cons (.int _) .nil))
theorem nks_pairs : ∀ {as : List Addr} {W : Way}, All2 (PairT H) as W → NKs H (as.map V.ref) (W.map encPair)
  | [], [], _ => .nil
  | [], _ :: _, h => by have := h.len; simp at this
  | _ :: _, [], h => by have := h.len; simp at this
  | a :: as, x :: xs, h => .cons (PairT.nk h.tail.1) (nks_pairs h.tail.2)
theorem WayT.nk {a : Addr} {W : Way} (h : WayT H a W) : NK H (.ref a) (encWay W) := by
  obtain ⟨as, h1, h2⟩ := h
  exact .tup h1 (nks_pairs h2)
theorem SceneIn.nk {t sa wa p : Addr} {s w : Bool → Addr} {sc : Scene} (I : SceneIn H t sc sa wa s w) (h : H p = some (.tup [.int (sc.made : Nat), .ref sa, .ref wa])) : NK H (.ref p) (ES.enc (SKey.of sc)) :=
  .tup h (.cons (.int _) (.cons (.tup I.sides (.cons (SideT.nk (I.side false)) (.cons (SideT.nk (I.side true)) .nil))) (.cons (.tup I.ways (.cons (WayT.nk (I.way false)) (.cons (WayT.nk (I.way true)) .nil))) .nil)))
end
/-! ### what does not depend on the stalls -/
section
variable {cfg : Cfg} {ws : List Write} {sc sc' : Scene}
def withSt (sc : Scene) (k : Int) : Scene := { sc with stalls := k }
theorem key_withSt (h : SKey.of sc = SKey.of sc') : sc' = withSt sc sc'.stalls := by
  rcases sc with ⟨a, b, c, d, e, f⟩
  rcases sc' with ⟨a', b', c', d', e', f'⟩
  injection h with h1 h2 h3 h4 h5
  simp only at h1 h2 h3 h4 h5
  subst h1 h2 h3 h4 h5
  rfl
theorem val_withSt {sg k : Int} : val cfg sg ws (withSt sc k) = val cfg sg ws sc := rfl
theorem possible_withSt {k : Int} : possible ws (withSt sc k) = possible ws sc := rfl
theorem val_key {sg : Int} (h : SKey.of sc = SKey.of sc') : val cfg sg ws sc' = val cfg sg ws sc := by
  rw [key_withSt h]
  rfl
theorem possible_key (h : SKey.of sc = SKey.of sc') : possible ws sc' = possible ws sc := by
  rw [key_withSt h]
  rfl
end
end Lw

/-! Searched: its making, a scene's key, what its table holds. -/
namespace Lw
open PySem PySem.Spec PyProof.Rows L2 LamX
open LW (Hold Mode Pol Cfg Write Side Scene Parts Way Rule Ev possible val scene0 mu after)
mutual
theorem NK.kt {H H' : Hp} (s : KT2 H H') : ∀ {v : V} {k : NestedKey}, NK H v k → NK H' v k
  | _, _, .non => .non
  | _, _, .bl b => .bl b
  | _, _, .int i => .int i
  | _, _, .str x => .str x
  | _, _, .tup h q => .tup (s.t _ _ h) (NKs.kt s q)
theorem NKs.kt {H H' : Hp} (s : KT2 H H') : ∀ {vs : List V} {ks : List NestedKey}, NKs H vs ks → NKs H' vs ks
  | _, _, .nil => .nil
  | _, _, .cons h q => .cons (NK.kt s h) (NKs.kt s q)
end
theorem KeysAt.kt {κ : Type} {H H' : Hp} {E : Enc κ} {rows : List (κ × Addr × V)} (h : KeysAt H E rows) (s : KT2 H H') : KeysAt H' E rows := fun x hx => (h x hx).kt s
/-! ### rows put -/
section
variable {κ : Type} [DecidableEq κ] {rows : List (κ × Addr × V)} {k : κ} {b : Addr} {v : V}
theorem valN_iff : (valN rows k).isSome = true ↔ k ∈ rows.map (·.1) := by
  unfold valN
  rw [Option.isSome_map, List.find?_isSome]
  simp
theorem valN_mem (h : valN rows k = some v) : ∃ b, (k, b, v) ∈ rows := by
  unfold valN at h
  obtain ⟨x, h1, h2⟩ := Option.map_eq_some_iff.mp h
  have h3 := List.find?_some h1
  have h4 := List.mem_of_find?_eq_some h1
  simp only [decide_eq_true_eq] at h3
  obtain ⟨a, b, c⟩ := x
  simp only at h2 h3
  subst h2 h3
  exact ⟨b, h4⟩
theorem putN_keys : (putN rows k b v).map (·.1) = if k ∈ rows.map (·.1) then rows.map (·.1) else rows.map (·.1) ++ [k] := by
  unfold putN
  by_cases e : k ∈ rows.map (·.1)
  · rw [if_pos (valN_iff.mpr e), if_pos e, List.map_map]
    refine List.map_congr_left fun x _ => ?_
    show (if x.1 = k then (x.1, x.2.1, v) else x).1 = x.1
    split <;> rfl
  · rw [if_neg (fun z => e (valN_iff.mp z)), if_neg e, List.map_append]
    rfl
theorem putN_nodup (h : (rows.map (·.1)).Nodup) : ((putN rows k b v).map (·.1)).Nodup := by
  rw [putN_keys]
  split
  · exact h
  · rename_i n
    rw [List.nodup_append]
    refine ⟨h, by simp, fun a ha c hc => ?_⟩
    have ec : c = k := by simpa using hc
    rintro rfl
    exact n (ec ▸ ha)
theorem mem_putN {y : κ × Addr × V} (h : y ∈ putN rows k b v) : (y.1 = k ∧ y.2.2 = v) ∨ (y ∈ rows ∧ y.1 ≠ k) := by
  unfold putN at h
  split at h
  · obtain ⟨x, hx, ex⟩ := List.mem_map.mp h
    by_cases e : x.1 = k
    · rw [if_pos e] at ex
      exact .inl ⟨by rw [← ex]; exact e, by rw [← ex]⟩
    · rw [if_neg e] at ex
      subst ex
      exact .inr ⟨hx, e⟩
  · rename_i n
    rcases List.mem_append.mp h with q | q
    · exact .inr ⟨q, fun e => n (valN_iff.mpr (List.mem_map.mpr ⟨y, q, e⟩))⟩
    · rw [List.mem_singleton.mp q]
      exact .inl ⟨rfl, rfl⟩
theorem valN_put : valN (putN rows k b v) k = some v := by
  have h : (valN (putN rows k b v) k).isSome = true := by
    rw [valN_iff, putN_keys]
    split
    · assumption
    · simp
  obtain ⟨u, hu⟩ := Option.isSome_iff_exists.mp h
  obtain ⟨c, hc⟩ := valN_mem hu
  rcases mem_putN hc with ⟨_, e⟩ | ⟨_, e⟩
  · rw [hu]
    exact congrArg some e
  · exact absurd rfl e
end
/-! ### scenes that a search comes to -/
inductive Rch (cfg : Cfg) (ws : List Write) : Scene → Prop
  | init : Rch cfg ws scene0
  | step {sc : Scene} {ev : Ev} : Rch cfg ws sc → ev ∈ possible ws sc → Rch cfg ws (after cfg ws sc ev)
/-- their keys are not too many -/
def Small (cfg : Cfg) (ws : List Write) : Prop := ∀ ks : List SKey, ks.Nodup → (∀ k ∈ ks, ∃ sc, Rch cfg ws sc ∧ SKey.of sc = k) → ks.length < sizeLine
/-- the event told for a scene -/
def EvOk (ws : List Write) (sc : Scene) (x : V) : Prop := (possible ws sc = [] ∧ x = .non) ∨ ∃ ev ∈ possible ws sc, x = .str (evS ev)
/-- what the table tells for a scene -/
def VAns (cfg : Cfg) (ws : List Write) (H : Hp) (v : V) (sc : Scene) : Prop := ∃ t p q x y, v = .ref t ∧ H t = some (.tup [.ref p, .ref q]) ∧ H p = some (.tup [.int (val cfg 1 ws sc), x]) ∧ H q = some (.tup [.int (val cfg (-1) ws sc), y]) ∧ EvOk ws sc x ∧ EvOk ws sc y
section
variable {cfg : Cfg} {ws : List Write} {H H' : Hp} {v : V} {sc sc' : Scene}
theorem VAns.kt (h : VAns cfg ws H v sc) (k : KT2 H H') : VAns cfg ws H' v sc := by
  obtain ⟨t, p, q, x, y, h1, h2, h3, h4, h5⟩ := h
  exact ⟨t, p, q, x, y, h1, k.t _ _ h2, k.t _ _ h3, k.t _ _ h4, h5⟩
theorem VAns.key (h : VAns cfg ws H v sc) (e : SKey.of sc = SKey.of sc') : VAns cfg ws H v sc' := by
  obtain ⟨t, p, q, x, y, h1, h2, h3, h4, h5⟩ := h
  refine ⟨t, p, q, x, y, h1, h2, ?_, ?_, ?_⟩
  · rw [val_key e]; exact h3
  · rw [val_key e]; exact h4
  · unfold EvOk at h5 ⊢
    rw [possible_key e]
    exact h5
end
/-- all but the tables and the thing at d stay -/
def EB (d : Addr) (H H' : Hp) : Prop := ∀ b o, b ≠ d → H b = some o → (∀ ps, o ≠ .tbl ps) → H' b = some o
theorem EB.refl (d : Addr) (H : Hp) : EB d H H := fun _ _ _ h _ => h
theorem EB.trans {d : Addr} {H H1 H2 : Hp} (a : EB d H H1) (b : EB d H1 H2) : EB d H H2 := fun c o n h t => b c o n (a c o n h t) t
theorem EB.en {d : Addr} {H H' : Hp} (e : ExtN H H') : EB d H H' := fun b o _ h n => e b o h n
theorem EB.of {d : Addr} {H H' : Hp} (e : Same H H') : EB d H H' := fun b o _ h _ => e b o h
theorem EB.put {d : Addr} {H : Hp} {o : HO} : EB d H (upd H d o) := fun b u n h _ => by
  rw [upd_ne n]
  exact h
theorem EB.kt {d : Addr} {H H' : Hp} {u : HO} (e : EB d H H') (h : H d = some u) (n : ∀ xs, u ≠ .tup xs) : KT2 H H' := ⟨fun a xs q => e a _ (fun z => by rw [z, h] at q; exact n _ (Option.some.inj q)) q fun _ z => nomatch z⟩
theorem dN_code {κ : Type} {P : Program} {w : World} {E : Enc κ} {a : Addr} {rows : List (κ × Addr × V)} (q : Str) : dN P w E a rows ≠ CodeO a q := by
  intro z
  unfold dN CodeO at z
  injection z with z
  have h := congrFun z { objs := Array.replicate (a + 1) { cls := .none, data := .fields #[.none, .str q 0] } }
  have g : ({ objs := Array.replicate (a + 1) { cls := .none, data := .fields #[.none, .str q 0] } } : Heap).get? a = some { cls := .none, data := .fields #[.none, .str q 0] } := by
    unfold Heap.get?
    simp
  have h2 := h.symm.mp ⟨_, _, _, g, rfl, rfl⟩
  obtain ⟨_, _, xs, _, o, es, ep, h3, _, h4, _⟩ := h2
  rw [g] at h3
  cases h3
  cases h4
theorem tabs_upd {T : List (Addr × Str)} {H : Hp} (t : Tabs T H) {a : Addr} {o u : HO} (h : H a = some u) (n2 : ∀ xs, u ≠ .tbl xs) (n4 : ∀ q, u ≠ CodeO a q) : Tabs T (L2.upd H a o) := fun p hp => by
  obtain ⟨ps, h1, h2, h3⟩ := t p hp
  have ne : p.1 ≠ a := fun z => by rw [z, h] at h1; exact n2 _ (Option.some.inj h1)
  refine ⟨ps, by rw [upd_ne ne]; exact h1, h2, fun pos cv hc => ?_⟩
  obtain ⟨c, e1, e2⟩ := h3 pos cv hc
  have nc : c ≠ a := fun z => by rw [z, h] at e2; exact n4 _ (Option.some.inj e2)
  exact ⟨c, e1, by rw [upd_ne nc]; exact e2⟩
structure SrAt (P : Program) (w : World) (K : PySem.W.Frag) (T : List (Addr × Str)) (B H : Hp) (x r st d : Addr) (cfg : Cfg) (ws : List Write) (rows : List (SKey × Addr × V)) : Prop where
  same : Same B H
  nt : NoT B
  fd : B d = none
  ins : ∃ dx, B x = some (.ins (He.ga K "Searched") dx (f_Searched r d))
  rules : RulesAt K B r st ws
  set : SetAt K B st cfg
  fit : Fit cfg ws
  small : Small cfg ws
  dict : H d = some (dN P w ES d rows)
  keys : KeysAt H ES rows
  nodup : (rows.map (·.1)).Nodup
  vals : ∀ row ∈ rows, ∃ sc, Rch cfg ws sc ∧ SKey.of sc = row.1 ∧ VAns cfg ws H row.2.2 sc
  tabs : Tabs T H
section
variable {P : Program} {w : World} {K : PySem.W.Frag} {T : List (Addr × Str)} {B H H' : Hp} {x r st d : Addr} {cfg : Cfg} {ws : List Write} {rows : List (SKey × Addr × V)}
theorem dN_tup {κ : Type} {E : Enc κ} {a : Addr} {rw' : List (κ × Addr × V)} : ∀ xs, dN P w E a rw' ≠ .tup xs := fun _ z => nomatch z
theorem dN_tbl {κ : Type} {E : Enc κ} {a : Addr} {rw' : List (κ × Addr × V)} : ∀ xs, dN P w E a rw' ≠ .tbl xs := fun _ z => nomatch z
theorem SrAt.len (D : SrAt P w K T B H x r st d cfg ws rows) : rows.length < sizeLine := by
  have := D.small (rows.map (·.1)) D.nodup fun k hk => by
    obtain ⟨row, hr, e⟩ := List.mem_map.mp hk
    obtain ⟨sc, h1, h2, _⟩ := D.vals row hr
    exact ⟨sc, h1, h2.trans e⟩
  rwa [List.length_map] at this
/-- a step that keeps the table's dict -/
theorem SrAt.en (D : SrAt P w K T B H x r st d cfg ws rows) (e : ExtN H H') (hT : Tabs T H') : SrAt P w K T B H' x r st d cfg ws rows := by
  refine { D with same := D.nt.same D.same e, dict := e _ _ D.dict dN_tbl, keys := KeysAt.kt D.keys (KT2.en e), vals := fun row hr => ?_, tabs := hT }
  obtain ⟨sc, h1, h2, h3⟩ := D.vals row hr
  exact ⟨sc, h1, h2, h3.kt (KT2.en e)⟩
theorem SrAt.mono (D : SrAt P w K T B H x r st d cfg ws rows) (s : Same H H') : SrAt P w K T B H' x r st d cfg ws rows := D.en (en_of_same s) (D.tabs.ext s)
/-- a thing not in B is changed -/
theorem SrAt.upd (D : SrAt P w K T B H x r st d cfg ws rows) {a : Addr} {o u : HO} (h : H a = some u) (hB : B a = none) (n1 : ∀ xs, u ≠ .tup xs) (n2 : ∀ xs, u ≠ .tbl xs) (n3 : a ≠ d) (n4 : ∀ q, u ≠ CodeO a q) : SrAt P w K T B (L2.upd H a o) x r st d cfg ws rows := by
  have kt : KT2 H (L2.upd H a o) := KT2.put h n1
  refine { D with same := same_put D.same hB, dict := ?_, keys := KeysAt.kt D.keys kt, vals := fun row hr => ?_, tabs := tabs_upd D.tabs h n2 n4 }
  · rw [upd_ne n3.symm]
    exact D.dict
  · obtain ⟨sc, h1, h2, h3⟩ := D.vals row hr
    exact ⟨sc, h1, h2, h3.kt kt⟩
/-- one more answer in the table -/
theorem SrAt.put (D : SrAt P w K T B H x r st d cfg ws rows) {sc : Scene} {b : Addr} {v : V} (hr : Rch cfg ws sc) (hb : NK H (.ref b) (ES.enc (SKey.of sc))) (hv : VAns cfg ws H v sc) : SrAt P w K T B (L2.upd H d (dN P w ES d (putN rows (SKey.of sc) b v))) x r st d cfg ws (putN rows (SKey.of sc) b v) := by
  have kt : KT2 H (L2.upd H d (dN P w ES d (putN rows (SKey.of sc) b v))) := KT2.put D.dict dN_tup
  refine { D with same := same_put D.same D.fd, dict := upd_same, keys := KeysAt.kt (D.keys.put _ hb) kt, nodup := putN_nodup D.nodup, vals := fun row hr' => ?_, tabs := ?_ }
  · rcases mem_putN hr' with ⟨e1, e2⟩ | ⟨h, _⟩
    · exact ⟨sc, hr, e1.symm, by rw [e2]; exact hv.kt kt⟩
    · obtain ⟨sc', h1, h2, h3⟩ := D.vals row h
      exact ⟨sc', h1, h2, h3.kt kt⟩
  · exact tabs_upd D.tabs D.dict dN_tbl dN_code
end
end Lw

namespace Lw
open PySem PySem.Spec PyProof.Rows L2 LamX
open LW (Hold Mode Pol Cfg Write Side Scene Parts Way Rule Ev possible val scene0 mu after)
section
variable {P : Program} {w : World} {K : PySem.W.Frag} {mg : Str → Option Value} {base : Heap}
def spSearchedInit (P : Program) (w : World) (K : PySem.W.Frag) : Sp := fun vs H Q _ => ∃ (x dx r : Addr), vs = [.ref x, .ref r] ∧ H x = some (.ins (He.ga K "Searched") dx []) ∧
  ∀ d H', H d = none → (∀ b, b ≠ x → b ≠ d → H' b = H b) → H' d = some (dN P w ES d []) → H' x = some (.ins (He.ga K "Searched") dx (f_Searched r d)) → Q .non H'
theorem c_Searched_init (T : Txt K mg) : Con P w K mg base 1 (He.ma K (He.ga K "Searched") "__init__") ["self", "rules"] [] (spSearchedInit P w K) := by
  refine con_of T.d_Searched_init rfl rfl sc_Searched_init (fun _ _ _ _ _ _ us hl => match us, hl with | [_, _], _ => rfl) (fun vs H Q E h => ?_) (fun cdv A outer s H vs Q E hr h => ?_)
  · obtain ⟨x, dx, r, rfl, _⟩ := h
    rfl
  · obtain ⟨x, dx, r, rfl, hx, q⟩ := h
    refine ⟨_, pss_cons (ps_fld (pv 0) (pv 1) rfl) (pss_one (ps_fld (pv 0) (newN ES P w) rfl)), ?_⟩
    refine ⟨_, rfl, _, rfl, x, _, dx, _, rfl, hx, T.c_Searched, T.n_Searched_rules, by decide, ?_⟩
    intro d hd
    have nd : d ≠ x := fun z => by rw [z, upd_same] at hd; cases hd
    refine ⟨_, rfl, x, _, dx, _, rfl, upd_new hd upd_same, T.c_Searched, T.n_Searched_known, (by show 1 < 1000; decide), ?_⟩
    rw [mk_Searched]
    refine q d _ (by rw [upd_ne nd] at hd; exact hd) (fun b h1 h2 => by rw [upd_ne h1, upd_ne h2, upd_ne h1]) (by rw [upd_ne nd, upd_same]) upd_same
def spKeyOf : Sp := fun vs H Q _ => ∃ (x t : Addr) (sc : Scene), vs = [.ref x, .ref t] ∧ SceneAt H t sc ∧ ∀ (p : Addr) (H' : Hp), Same H H' → NK H' (.ref p) (ES.enc (SKey.of sc)) → Q (.ref p) H'
theorem c_Searched_key_of (T : Txt K mg) : Con P w K mg base 1 (He.ma K (He.ga K "Searched") "key_of") ["self", "scene"] [] spKeyOf := by
  refine con_of T.d_Searched_key_of rfl rfl sc_Searched_key_of (fun _ _ _ _ _ _ us hl => match us, hl with | [_, _], _ => rfl) (fun vs H Q E h => ?_) (fun cdv A outer s H vs Q E hr h => ?_)
  · obtain ⟨x, t, sc, rfl, _⟩ := h
    rfl
  · obtain ⟨x, t, sc, rfl, ⟨sa, wa, sp, wp, I⟩, q⟩ := h
    refine ⟨_, pss_one (ps_ret (pe_tup (pa_cons (pe_ix ix_tup (pv 1) pe_int (fun _ _ => rfl)) (pa_cons (pe_ix ix_tup (pv 1) pe_int (fun _ _ => rfl)) (pa_cons (pe_ix ix_tup (pv 1) pe_int (fun _ _ => rfl)) pa_nil))))), ?_⟩
    refine ⟨_, rfl, t, _, 0, _, rfl, rfl, SqT.of I.top, atI_nat (j := 0) rfl, ?_⟩
    refine ⟨_, rfl, t, _, 2, _, rfl, rfl, SqT.of I.top, atI_nat (j := 2) rfl, ?_⟩
    refine ⟨_, rfl, t, _, 3, _, rfl, rfl, SqT.of I.top, atI_nat (j := 3) rfl, ?_⟩
    refine ⟨by show 3 ≤ sizeLine; decide, fun p hp => ?_⟩
    have s1 : Same H (upd H p (.tup [.int (sc.made : Nat), .ref sa, .ref wa])) := same_new (Same.refl _) hp
    exact q p _ s1 ((I.kt (KT2.of s1)).nk upd_same)
end
end Lw

namespace Lw
open PySem PySem.Spec PyProof.Rows L2 LamX
open LW (Hold Mode Pol Cfg Write Side Scene Parts Way Rule Ev possible val scene0 mu after canWrite)
def refOf : Value → Option Addr
  | .ref c => some c
  | _ => none
theorem refOf_eq {v : Value} {c : Addr} (h : refOf v = some c) : v = .ref c := by
  cases v <;> first | cases h | skip
  rfl
/-- the code object of the def at a -/
def codeOf (K : PySem.W.Frag) (a : Addr) : Option Addr := match K.lookup a with
  | some ⟨_, _, .func fd, _⟩ => refOf fd.code
  | _ => none
section
variable {P : Program} {w : World} {K : PySem.W.Frag} {mg : Str → Option Value} {base : Heap} {k : Nat} {ps N : List Str} {sp : Sp}
/-- a def without defaults, its code object told -/
theorem con_ofL {d : DefA} {c : Addr} (D : d.Is K) (hc : codeOf K (d.adr K) = some c) (e1 : d.dfl = []) (e2 : d.kwd = []) (S : FnScope N ps (defScope d.st))
    (hb : ∀ (kV doc pm : Value) (an : Option Addr) (cdv ct : Value) (us : List Value), us.length = ps.length → bindArgs (PySem.W.fnOf d.name d.qual (defArgs d.st) (defBody d.st) (defScope d.st) .none kV doc pm an cdv ct) ⟨us, []⟩ = pure (ps.zip us))
    (len : ∀ vs H Q E, sp vs H Q E → vs.length = ps.length)
    (b : ∀ (A : Around) (outer : List Env) (s : Shared) (H : Hp) (vs : List V) (Q : VK) (E : XK), Room k (A.deeper (envOfC d.qual (defScope d.st) s.heap.objs.size (d.adr K) (.ref c))) → sp vs H Q E →
      ∃ t, PSs (cxOf CX0 P w K mg base N d.qual (defScope d.st) (d.adr K) (.ref c) A outer s H E).nox (defBody d.st) t ∧ t { nx := fun _ H' => Q .non H', rt := Q } (start N vs) H) : Con P w K mg base (k + 1) (d.adr K) ps [] sp := by
  obtain ⟨fd, F⟩ := D
  have F' := F
  rw [e1] at F'
  obtain ⟨oc, od, dV, kV, doc, pm, an, cdv, ct, osl, rfl, lk, hcd, _, _⟩ := id F.ex
  have ec : cdv = .ref c := by
    unfold codeOf at hc
    rw [lk] at hc
    exact refOf_eq hc
  subst ec
  refine ⟨_, [], fn_of lk hcd S len fun A outer s H vs Q E hr hsp => ?_, .nil, F'.bindsN hb, F.kp⟩
  obtain ⟨t, h1, h2⟩ := b A outer s H vs Q E hr hsp
  exact ⟨t, h1.nox, h2⟩
end
theorem iteB {b : Bool} {A B : Prop} (h : b = true) (a : A) : if b = true then A else B := by
  rw [h]
  exact iteT a
theorem iteBn {b : Bool} {A B : Prop} (h : b = false) (a : B) : if b = true then A else B := by
  rw [h]
  exact iteF a
section
variable {P : Program} {w : World} {K : PySem.W.Frag} {mg : Str → Option Value} {base : Heap} {c Pt : Addr} {T : List (Addr × Str)}
theorem possible_len (ws : List Write) (sc : Scene) : (possible ws sc).length ≤ 4 := by
  unfold possible
  split
  · exact Nat.zero_le _
  · show (if _ then _ else _ : List Ev).length ≤ 4
    by_cases h1 : sc.w0 ≠ [] <;> by_cases h2 : sc.w1 ≠ [] <;> by_cases h3 : canWrite ws sc = true <;> simp [h1, h2, h3]
/-- one answer, kept for an event -/
def RowT (H : Hp) (ws : List Write) (cfg : Cfg) (sc : Scene) (a : Addr) (ev : Ev) : Prop := ∃ p q, H a = some (.tup [.ref p, .ref q]) ∧ H p = some (.tup [.int (val cfg 1 ws (after cfg ws sc ev) + ((after cfg ws sc ev).stalls - sc.stalls)), .str (evS ev)]) ∧ H q = some (.tup [.int (val cfg (-1) ws (after cfg ws sc ev) + ((after cfg ws sc ev).stalls - sc.stalls)), .str (evS ev)])
theorem RowT.kt {H H' : Hp} {ws : List Write} {cfg : Cfg} {sc : Scene} {a : Addr} {ev : Ev} (h : RowT H ws cfg sc a ev) (k : KT2 H H') : RowT H' ws cfg sc a ev := by
  obtain ⟨p, q, h1, h2, h3⟩ := h
  exact ⟨p, q, k.t _ _ h1, k.t _ _ h2, k.t _ _ h3⟩
/-- one column's entry -/
def PT (cfg : Cfg) (ws : List Write) (sc : Scene) (sg : Int) (H : Hp) (a : Addr) (ev : Ev) : Prop := H a = some (.tup [.int (val cfg sg ws (after cfg ws sc ev) + ((after cfg ws sc ev).stalls - sc.stalls)), .str (evS ev)])
theorem best_val {cfg : Cfg} {ws : List Write} {sc : Scene} {sg : Int} (hsg : sg = 1 ∨ sg = -1) (fit : Fit cfg ws) (scn : Scn cfg ws sc) {ev : Ev} (h : ev ∈ possible ws sc)
    (hb : ∀ e ∈ possible ws sc, sg * (val cfg sg ws (after cfg ws sc ev) + ((after cfg ws sc ev).stalls - sc.stalls)) ≤ sg * (val cfg sg ws (after cfg ws sc e) + ((after cfg ws sc e).stalls - sc.stalls))) :
    val cfg sg ws (after cfg ws sc ev) + ((after cfg ws sc ev).stalls - sc.stalls) = val cfg sg ws sc := by
  obtain ⟨_, _, h1⟩ := LW.search_step (sg := sg) hsg fit.ok fit.wok scn.j h
  obtain ⟨e, he, h2⟩ := LW.search_ex (sg := sg) hsg fit.ok fit.wok scn.j (fun z => by rw [z] at h; cases h)
  have h3 := hb e he
  rw [← h2] at h3
  rcases hsg with rfl | rfl <;> omega
theorem rows_dp {K : PySem.W.Frag} {H : Hp} {ws : List Write} {cfg : Cfg} {sc : Scene} : ∀ {as : List Addr} {evs : List Ev}, All2 (RowT H ws cfg sc) as evs → ∃ ds, DpAll K H (as.map V.ref) ds ∧ ds.length = as.length ∧ PyData.canLayAll0 ds = true ∧ PyData.depthAll ds ≤ 2
  | [], _, _ => ⟨[], .nil, rfl, rfl, Nat.zero_le _⟩
  | _ :: _, [], h => by have := h.len; simp at this
  | a :: as, e :: es, h => by
    obtain ⟨⟨p, q, h1, h2, h3⟩, t⟩ := h.tail
    obtain ⟨ds, d1, d2, d3, d4⟩ := rows_dp (K := K) t
    refine ⟨_ :: ds, .cons (.tup (SqT.of h1) (.cons (.tup (SqT.of h2) (.cons (.int _) (.cons (.str _) .nil))) (.cons (.tup (SqT.of h3) (.cons (.int _) (.cons (.str _) .nil))) .nil))) d1, by simp [d2], ?_, ?_⟩
    · show (PyData.canLay0 _ && PyData.canLayAll0 ds) = true
      have : ∀ a c, PyData.canLay0 (.tuple [.tuple [.int a, .str (evS e)], .tuple [.int c, .str (evS e)]]) = true := fun a c => by
        rcases e with _ | (_ | _) | _ <;> kernel_rfl
      rw [this, d3]
      rfl
    · show max (PyData.depth (.tuple [.tuple [.int _, .str _], .tuple [.int _, .str _]])) (PyData.depthAll ds) ≤ 2
      have : ∀ a b c d, PyData.depth (.tuple [.tuple [.int a, .str b], .tuple [.int c, .str d]]) = 2 := fun _ _ _ _ => rfl
      rw [this]
      omega
theorem list_shaped {ds : List PyData} (h1 : PyData.canLayAll0 ds = true) (h2 : PyData.depthAll ds ≤ 2) : SeqAt.shaped (.list ds) = true := by
  unfold SeqAt.shaped
  have e1 : PyData.canLay0 (.list ds) = true := h1
  have e2 : PyData.depth (.list ds) ≤ 64 := by
    show PyData.depthAll ds + 1 ≤ 64
    omega
  rw [e1, decide_eq_true e2]
  rfl
theorem SrAt.lenPut {B H : Hp} {x r st d : Addr} {cfg : Cfg} {ws : List Write} {rows : List (SKey × Addr × V)} (D : SrAt P w K T B H x r st d cfg ws rows) {sc : Scene} (hR : Rch cfg ws sc) {b : Addr} {v : V} : (putN rows (SKey.of sc) b v).length < sizeLine := by
  have := D.small ((putN rows (SKey.of sc) b v).map (·.1)) (putN_nodup D.nodup) fun k hk => by
    obtain ⟨row, hr, e⟩ := List.mem_map.mp hk
    rcases mem_putN hr with ⟨e1, _⟩ | ⟨h, _⟩
    · exact ⟨sc, hR, e1.symm.trans e⟩
    · obtain ⟨sc', h1, h2, _⟩ := D.vals row h
      exact ⟨sc', h1, h2.trans e⟩
  rwa [List.length_map] at this
theorem SrAt.put2 {B H H' : Hp} {x r st d : Addr} {cfg : Cfg} {ws : List Write} {rows : List (SKey × Addr × V)} (D : SrAt P w K T B H x r st d cfg ws rows) {sc : Scene} (hR : Rch cfg ws sc) {b : Addr} {v v0 : V} (hb : NK H (.ref b) (ES.enc (SKey.of sc)))
    (e : ExtN (L2.upd H d (dN P w ES d (putN rows (SKey.of sc) b v0))) H') (hT : Tabs T H') (hv : VAns cfg ws H' v sc) :
    SrAt P w K T B (L2.upd H' d (dN P w ES d (putN (putN rows (SKey.of sc) b v0) (SKey.of sc) b v))) x r st d cfg ws (putN (putN rows (SKey.of sc) b v0) (SKey.of sc) b v) := by
  have hd' : H' d = some (dN P w ES d (putN rows (SKey.of sc) b v0)) := e _ _ upd_same dN_tbl
  have kt1 : KT2 H H' := (KT2.put D.dict dN_tup).trans (KT2.en e)
  have kt2 : KT2 H' (L2.upd H' d (dN P w ES d (putN (putN rows (SKey.of sc) b v0) (SKey.of sc) b v))) := KT2.put hd' dN_tup
  have kt := kt1.trans kt2
  refine { D with same := same_put (D.nt.same (same_put D.same D.fd) e) D.fd, dict := upd_same, keys := KeysAt.kt ((D.keys.put _ hb).put _ hb) kt, nodup := putN_nodup (putN_nodup D.nodup), vals := fun row hr' => ?_, tabs := tabs_upd hT hd' dN_tbl dN_code }
  rcases mem_putN hr' with ⟨e1, e2⟩ | ⟨h, n⟩
  · exact ⟨sc, hR, e1.symm, by rw [e2]; exact hv.kt kt2⟩
  · rcases mem_putN h with ⟨e1, _⟩ | ⟨h, _⟩
    · exact absurd e1 n
    · obtain ⟨sc', h1, h2, h3⟩ := D.vals row h
      exact ⟨sc', h1, h2, h3.kt kt⟩
theorem col {H : Hp} {ws : List Write} {cfg : Cfg} {sc : Scene} {sg : Int} {j : Nat} {l : Addr} {as : List Addr} {evs : List Ev} {Q : VK} {u0 u1 u2 u4 u5 u6 u7 u8 u9 : Option V} (hl : H l = some (.lst (as.map V.ref)))
    (hA : All2 (fun a ev => ∃ q xs, H a = some (.tup xs) ∧ atI xs (j : Nat) = some (.ref q) ∧ PT cfg ws sc sg H q ev) as evs) (hs : as.length ≤ 4)
    (q : ∀ L H' items, Same H H' → H' L = some (.lst (items.map V.ref)) → All2 (PT cfg ws sc sg H') items evs → Q (.ref L) H') :
    tLc (iList K (tVar 3)) (gName 10) tYes (tOp (rIxT K) (tVar 10) (tC (.int (j : Nat)))) [10] [u0, u1, u2, some (.ref l), u4, u5, u6, u7, u8, u9, none] H Q := by
  refine ⟨_, rfl, l, rfl, ⟨_, SqL.of hl⟩, fun L hL => ?_⟩
  refine lc_list (K := K) (xs := as.map V.ref) (fun i H' => ∃ items : List Addr, Same H H' ∧ H' L = some (.lst (items.map V.ref)) ∧ All2 (PT cfg ws sc sg H) items (evs.take i)) ⟨[], same_new (Same.refl _) hL, upd_same, All2.nil⟩ (fun i H' _ ⟨_, z, _⟩ => SqL.of (z _ _ hl)) (fun i y H' hi z => ?_) (fun H' z => ?_)
  · obtain ⟨items, s2, hN, hI⟩ := z
    obtain ⟨a, ea, rfl⟩ := ref_at hi
    obtain ⟨ev, hev, q1, xs, h1, h2, h3⟩ := hA.get' ea
    refine ⟨rfl, ?_⟩
    refine iteT (B := False) ?_
    have len := hI.len
    rw [List.length_take] at len
    have l2 := hA.len
    refine ⟨_, rfl, a, xs, (j : Nat), _, rfl, rfl, SqT.of (s2 _ _ h1), h2, _, hN, by rw [List.length_map]; exact small1000 (by omega), items ++ [q1], same_put s2 hL, ?_, ?_⟩
    · rw [upd_same, List.map_append]
      rfl
    · rw [List.take_add_one, hev]
      exact hI.snoc h3
  · obtain ⟨items, s2, hN, hI⟩ := z
    rw [List.length_map, hA.len, List.take_length] at hI
    exact q L H' items s2 hN (hI.mono fun _ _ z => s2 _ _ z)
def numV (cfg : Cfg) (ws : List Write) (sc : Scene) (sg : Int) (i : Nat) : Int := ((possible ws sc)[i]?.map fun ev => val cfg sg ws (after cfg ws sc ev) + ((after cfg ws sc ev).stalls - sc.stalls)).getD 0
theorem numT {cfg : Cfg} {ws : List Write} {sc : Scene} {sg : Int} {H : Hp} {items : List Addr} (hI : All2 (PT cfg ws sc sg H) items (possible ws sc)) {i : Nat} {a : Addr} (hi : items[i]? = some a) : ∃ r, H a = some (.tup (.int (numV cfg ws sc sg i) :: r)) := by
  obtain ⟨ev, hev, h⟩ := hI.get' hi
  refine ⟨[.str (evS ev)], ?_⟩
  unfold numV
  rw [hev]
  exact h
theorem pick {cfg : Cfg} {ws : List Write} {sc : Scene} {sg : Int} {H : Hp} {items : List Addr} (hsg : sg = 1 ∨ sg = -1) (fit : Fit cfg ws) (scn : Scn cfg ws sc) (hI : All2 (PT cfg ws sc sg H) items (possible ws sc)) {i : Nat} {a : Addr} (hi : items[i]? = some a)
    (hb : ∀ j, j < items.length → sg * numV cfg ws sc sg i ≤ sg * numV cfg ws sc sg j) : ∃ ev ∈ possible ws sc, H a = some (.tup [.int (val cfg sg ws sc), .str (evS ev)]) := by
  obtain ⟨ev, hev, h⟩ := hI.get' hi
  have hm : ev ∈ possible ws sc := List.mem_of_getElem? hev
  refine ⟨ev, hm, ?_⟩
  rw [← best_val hsg fit scn hm fun e he => ?_]
  · exact h
  · obtain ⟨j, hj⟩ := List.getElem?_of_mem he
    have hl : j < items.length := by
      rw [hI.len]
      exact (List.getElem?_eq_some_iff.mp hj).1
    have := hb j hl
    unfold numV at this
    rw [hev, hj] at this
    exact this
def spFrom (P : Program) (w : World) (K : PySem.W.Frag) (T : List (Addr × Str)) (m : Nat) : Sp := fun vs H Q _ => ∃ (B : Hp) (x r st d t : Addr) (cfg : Cfg) (ws : List Write) (rows : List (SKey × Addr × V)) (sc : Scene), vs = [.ref x, .ref t] ∧ SrAt P w K T B H x r st d cfg ws rows ∧ SceneAt H t sc ∧ Scn cfg ws sc ∧ Rch cfg ws sc ∧ mu cfg ws sc < m ∧
  ∀ (H' : Hp) (rows' : List (SKey × Addr × V)) (v : V), EB d H H' → SrAt P w K T B H' x r st d cfg ws rows' → VAns cfg ws H' v sc → Q v H'
theorem lam1 {params : Arguments} {body : Expr} {scope : Scope} (h1 : scope.kind = .function) (h2 : scope.isCoroutine = false) (h3 : scope.isGenerator = false) (h4 : scope.names = [(("pair" : Str), NameKind.local)]) (h5 : ∀ env : Env, defaultsOf params env = ([], []))
    (h6 : ∀ (q : Str) (pm cv ctv v : Value), bindArgs (PySem.W.kla_fn "<lambda>" q params body scope [] pm cv ctv) ⟨[v], []⟩ = pure [(("pair" : Str), v)]) : LamOne params body scope "pair" := ⟨h1, h2, h3, h4, by decide, h5, h6⟩
theorem c_from_here (Tx : Txt K mg) (TB : TabB base mg c Pt) (hc : codeOf K (d_Searched_from_here.adr K) = some c) (hm : (Pt, d_Searched_from_here.qual ++ ".<locals>." ++ "<lambda>") ∈ T) (hu : ∀ p ∈ T, p.1 = Pt → p.2 = d_Searched_from_here.qual ++ ".<locals>." ++ "<lambda>") : ∀ m : Nat, Con P w K mg base (m + 6) (He.ma K (He.ga K "Searched") "from_here") ["self", "scene"] [] (spFrom P w K T m)
  | 0 => by
    refine con_ofL Tx.d_Searched_from_here hc rfl rfl sc_Searched_from_here (fun _ _ _ _ _ _ us hl => match us, hl with | [_, _], _ => rfl) (fun vs H Q E h => ?_) (fun A outer s H vs Q E hr h => ?_)
    · obtain ⟨B, x, r, st, d, t, cfg, ws, rows, sc, rfl, _⟩ := h
      rfl
    · obtain ⟨B, x, r, st, d, t, cfg, ws, rows, sc, rfl, D, hS, scn, hR, hmu, q⟩ := h
      have := LW.mu_nn D.fit.ok D.fit.wok scn.j
      exact absurd hmu (by show ¬ _ < (0 : Int); omega)
  | m + 1 => by
    have ih := c_from_here Tx TB hc hm hu m
    refine con_ofL Tx.d_Searched_from_here hc rfl rfl sc_Searched_from_here (fun _ _ _ _ _ _ us hl => match us, hl with | [_, _], _ => rfl) (fun vs H Q E h => ?_) (fun A outer s H vs Q E hr h => ?_)
    · obtain ⟨B, x, r, st, d, t, cfg, ws, rows, sc, rfl, _⟩ := h
      rfl
    · obtain ⟨B, x, r, st, d, t, cfg, ws, rows, sc, rfl, D, hS, scn, hR, hmu, q⟩ := h
      have nd := sc_Searched_from_here.nd
      have hun := hr.units
      refine ⟨_, pss_cons (ss 2 nd (meth_c (pv 0) Tx.c_Searched Tx.t_Searched_key_of (c_Searched_key_of Tx) (hr.mono (by omega)) (pa_cons (pv 1) pa_nil)))
        (pss_cons (ps_if (pt_cmpR (notInN ES P w hun) (pv 2) (pe_fld (pv 0) rfl) rfl)
          (pss_cons (ss 3 nd (pe_lst pa_nil))
          (pss_cons (ps_for PassesOwn.never rfl (pi_list (meth_c (pe_fld (pv 0) rfl) Tx.c_Rules Tx.t_Rules_possible (c_Rules_possible Tx) (hr.mono (by omega)) (pa_cons (pv 1) pa_nil))) (gn 4 nd)
            (pss_cons (ss 5 nd (meth_c (pe_fld (pv 0) rfl) Tx.c_Rules Tx.t_Rules_after (c_Rules_after Tx) (hr.mono (by omega)) (pa_cons (pv 1) (pa_cons (pv 4) pa_nil))))
            (C8.pss_cut (ps_asg (meth_c (pv 0) Tx.c_Searched Tx.t_Searched_from_here ih hr (pa_cons (pv 5) pa_nil)) (pg_tup rfl (pgs_cons (gn 6 nd) (pgs_cons (gn 7 nd) pgs_nil))))
            (pss_cons (ss 8 nd (pe_op op_sub (pe_ix ix_tup (pv 5) pe_int (fun _ _ => rfl)) (pe_ix ix_tup (pv 1) pe_int (fun _ _ => rfl))))
            (pss_one (ps_expr (pe_bm PySem.F.plainAttrs_list PySem.F.slot_list_append PySem.F.type_list_append mt_append (pv 3) (pa_cons (pe_tup (pa_cons (pe_tup (pa_cons (pe_op op_add (pe_ix ix_tup (pv 6) pe_int (fun _ _ => rfl)) (pv 8)) (pa_cons (pv 4) pa_nil))) (pa_cons (pe_tup (pa_cons (pe_op op_add (pe_ix ix_tup (pv 7) pe_int (fun _ _ => rfl)) (pv 8)) (pa_cons (pv 4) pa_nil))) pa_nil))) pa_nil))))))))
          (C8.pss_cut (nput ES P w hun (pe_fld (pv 0) rfl) (pv 2) (pe_tup (pa_cons (pe_tup (pa_cons pe_int (pa_cons pe_non pa_nil))) (pa_cons (pe_tup (pa_cons pe_int (pa_cons pe_non pa_nil))) pa_nil))))
          (pss_one (ps_if (pt_cmpR (op_neD hun) (pv 3) (pe_lst pa_nil) rfl)
            (pss_cons (ss 9 nd (pe_minKey TB rfl hm hu hr (lam1 rfl rfl rfl rfl (fun _ => rfl) (fun _ _ _ _ _ => rfl)) rfl Tx.f_min (pa_cons (pe_lc (own := [("row", 10)]) (g := gName 10) (tt := tYes) (te := tOp (rIxT K) (tVar 10) (tC (.int 0))) rfl nd (pi_list (pv 3)) (blkOk_by (N := N_Searched_from_here) (sc := defScope st_Searched_from_here) (by decide +kernel))
              (fun _ _ _ _ _ => gn 10 nd) (fun _ _ _ _ _ => pts_nil) (fun _ _ _ _ _ => pe_ix ix_tup (pv 10) pe_int (fun _ _ => rfl))) pa_nil)))
            (pss_one (nput ES P w hun (pe_fld (pv 0) rfl) (pv 2) (pe_tup (pa_cons (pv 9) (pa_cons (pe_maxKey TB rfl hm hu hr (lam1 rfl rfl rfl rfl (fun _ => rfl) (fun _ _ _ _ _ => rfl)) rfl Tx.f_max (pa_cons (pe_lc (own := [("row", 10)]) (g := gName 10) (tt := tYes) (te := tOp (rIxT K) (tVar 10) (tC (.int 1))) rfl nd (pi_list (pv 3)) (blkOk_by (N := N_Searched_from_here) (sc := defScope st_Searched_from_here) (by decide +kernel))
              (fun _ _ _ _ _ => gn 10 nd) (fun _ _ _ _ _ => pts_nil) (fun _ _ _ _ _ => pe_ix ix_tup (pv 10) pe_int (fun _ _ => rfl))) pa_nil)) pa_nil))))))
            pss_nil)))))
          pss_nil)
        (pss_one (ps_ret (getN ES P w hun (pe_fld (pv 0) rfl) (pv 2) (fun _ _ => rfl))))), ?_⟩
      obtain ⟨dx, hx⟩ := D.ins
      refine ⟨_, rfl, x, dx, _, rfl, D.same _ _ hx, no_Searched_key_of, _, rfl, x, t, sc, rfl, hS, fun p H1 s1 hk => ?_⟩
      have D1 := D.mono s1
      refine ⟨_, rfl, _, rfl, x, _, dx, _, _, rfl, D1.same _ _ hx, Tx.c_Searched, Tx.n_Searched_known, lk_Searched_known, p, d, SKey.of sc, rows, rfl, rfl, .inl D1.dict, D1.keys, hk, ?_⟩
      -- what the end does
      have fin : ∀ {u3 u4 u5 u6 u7 u8 u9 u10 : Option V} {H' : Hp} {rows' : List (SKey × Addr × V)} {v : V}, EB d H H' → SrAt P w K T B H' x r st d cfg ws rows' → NK H' (.ref p) (ES.enc (SKey.of sc)) → valN rows' (SKey.of sc) = some v →
          tNGet P w ES (tFld K (tVar 0) "known") (tVar 2) [some (.ref x), some (.ref t), some (.ref p), u3, u4, u5, u6, u7, u8, u9, u10] H' Q := by
        intro u3 u4 u5 u6 u7 u8 u9 u10 H' rows' v eb D' hk' ev
        refine ⟨_, rfl, x, _, dx, _, _, rfl, D'.same _ _ hx, Tx.c_Searched, Tx.n_Searched_known, lk_Searched_known, _, rfl, d, p, SKey.of sc, rows', v, rfl, rfl, .inl D'.dict, D'.keys, hk', ev, ?_⟩
        obtain ⟨b, hb⟩ := valN_mem ev
        obtain ⟨sc', g1, g2, g3⟩ := D'.vals _ hb
        exact q H' rows' v eb D' (g3.key g2)
      by_cases hin : (valN rows (SKey.of sc)).isSome = true
      · obtain ⟨v, ev⟩ := Option.isSome_iff_exists.mp hin
        refine ⟨_, rfl, iteBn (b := !(valN rows (SKey.of sc)).isSome) (by rw [hin]; rfl) ?_⟩
        exact fin (EB.of s1) D1 hk ev
      · refine ⟨_, rfl, iteB (b := !(valN rows (SKey.of sc)).isSome) (by rw [Bool.eq_false_iff.mpr hin]; rfl) ?_⟩
        refine ⟨by decide, fun l hl => ?_⟩
        have s2 : Same H1 (upd H1 l (.lst [])) := same_new (Same.refl _) hl
        have D2 := D1.mono s2
        have S2 := hS.mono (s1.trans s2)
        have k2 := hk.mono s2
        have l2 : (upd H1 l (.lst [])) l = some (.lst []) := upd_same
        have eb2 : EB d H (upd H1 l (.lst [])) := EB.of (s1.trans s2)
        have nld : l ≠ d := fun z => by rw [z, D1.dict] at hl; cases hl
        have Bl : B l = none := D1.same.free hl
        have Hl : H l = none := s1.free hl
        generalize upd H1 l (.lst []) = H2 at D2 S2 k2 l2 eb2
        obtain ⟨dr, wl, gl, hri, _, _⟩ := id D.rules
        have hmade : sc.made ≤ ws.length := scn.j.le
        refine ⟨_, rfl, x, _, dx, _, _, rfl, D2.same _ _ hx, Tx.c_Searched, Tx.n_Searched_rules, lk_Searched_rules, r, dr, _, rfl, D2.same _ _ hri, no_Rules_possible, _, rfl, r, st, t, ws, sc, rfl, D.rules.mono D2.same, S2, hmade, fun pl H3 s3 hpl => ?_⟩
        refine ⟨pl, rfl, ⟨_, SqL.of hpl⟩, for_it walk_list (fun i σ H' => ∃ (u4 u5 u6 u7 u8 : Option V) (rows' : List (SKey × Addr × V)) (as : List Addr), σ = [some (.ref x), some (.ref t), some (.ref p), some (.ref l), u4, u5, u6, u7, u8, none, none] ∧ EB d H H' ∧
          SrAt P w K T B H' x r st d cfg ws rows' ∧ SceneAt H' t sc ∧ NK H' (.ref p) (ES.enc (SKey.of sc)) ∧ H' pl = some (.lst ((possible ws sc).map fun e => V.str (evS e))) ∧ H' l = some (.lst (as.map V.ref)) ∧ All2 (RowT H' ws cfg sc) as ((possible ws sc).take i))
          ⟨none, none, none, none, none, rows, [], rfl, eb2.trans (EB.of s3), D2.mono s3, S2.mono s3, k2.mono s3, hpl, s3 _ _ l2, All2.nil⟩ (fun i σ H' _ ⟨_, _, _, _, _, _, _, _, _, _, _, _, z, _⟩ => SqL.of z) ?_ ?_⟩
        · rintro i y σ H4 H5 hi ⟨u4, u5, u6, u7, u8, rows4, as, rfl, eb4, D4, S4, k4, hpl4, l4, hA⟩ ⟨rfl, hy⟩
          rw [List.getElem?_map] at hy
          obtain ⟨ev, hev, rfl⟩ := Option.map_eq_some_iff.mp hy
          have hmem : ev ∈ possible ws sc := List.mem_of_getElem? hev
          refine ⟨_, rfl, x, _, dx, _, _, rfl, D4.same _ _ hx, Tx.c_Searched, Tx.n_Searched_rules, lk_Searched_rules, r, dr, _, rfl, D4.same _ _ hri, no_Rules_after, _, rfl, _, rfl, r, st, t, cfg, ws, sc, ev, rfl, D4.rules.mono D4.same, D4.set.mono D4.same, D4.fit, S4, scn, hmem, fun th H6 s6 S6 => ?_⟩
          have D6 := D4.mono s6
          have l6 := s6 _ _ l4
          have hpl6 := s6 _ _ hpl4
          have k6 := k4.mono s6
          have eb6 := eb4.trans (EB.of s6)
          have S6' := S4.mono s6
          have hA6 := hA.mono fun _ _ z => RowT.kt z (KT2.of s6)
          obtain ⟨jJ, jm, _⟩ := LW.search_step (sg := 1) (Or.inl rfl) D.fit.ok D.fit.wok scn.j hmem
          refine ⟨fun σ H' => ∃ (p7 q7 : Addr) (xx yy : V) (rows' : List (SKey × Addr × V)), σ = [some (.ref x), some (.ref t), some (.ref p), some (.ref l), some (.str (evS ev)), some (.ref th), some (.ref p7), some (.ref q7), u8, none, none] ∧ EB d H H' ∧
            SrAt P w K T B H' x r st d cfg ws rows' ∧ SceneAt H' t sc ∧ SceneAt H' th (after cfg ws sc ev) ∧ NK H' (.ref p) (ES.enc (SKey.of sc)) ∧ H' pl = some (.lst ((possible ws sc).map fun e => V.str (evS e))) ∧ H' l = some (.lst (as.map V.ref)) ∧ All2 (RowT H' ws cfg sc) as ((possible ws sc).take i) ∧
            H' p7 = some (.tup [.int (val cfg 1 ws (after cfg ws sc ev)), xx]) ∧ H' q7 = some (.tup [.int (val cfg (-1) ws (after cfg ws sc ev)), yy]), ?_, ?_⟩
          · refine ⟨_, rfl, x, dx, _, rfl, D6.same _ _ hx, no_Searched_from_here, _, rfl, B, x, r, st, d, th, cfg, ws, rows4, after cfg ws sc ev, rfl, D6, S6, scn.after D.fit hmem, .step hR hmem, (by have : mu cfg ws sc < ((m + 1 : Nat) : Int) := hmu; omega), fun H7 rows7 v eb7 D7 va => ?_⟩
            obtain ⟨t7, p7, q7, xx, yy, rfl, h1, h2, h3, _, _⟩ := va
            have kt7 := eb7.kt D6.dict dN_tup
            have npd : pl ≠ d := fun z => by rw [z, D6.dict] at hpl6; exact nomatch hpl6
            refine ⟨t7, _, rfl, SqT.of h1, rfl, _, _, rfl, _, _, rfl, rfl, p7, q7, xx, yy, rows7, rfl, eb6.trans eb7, D7, S6'.kt kt7, S6.kt kt7, k6.kt kt7, eb7 _ _ npd hpl6 (fun _ z => nomatch z), eb7 _ _ nld l6 (fun _ z => nomatch z), hA6.mono fun _ _ z => RowT.kt z kt7, h2, h3⟩
          · rintro _ H7 ⟨p7, q7, xx, yy, rows7, rfl, eb7, D7, S7, ST7, k7, hpl7, l7, hA7, h2, h3⟩
            have nlp : l ≠ pl := fun z => by
              rw [← z, l7] at hpl7
              injection hpl7 with hpl7
              injection hpl7 with hpl7
              cases ha : as with
              | nil =>
                rw [ha] at hpl7
                have hpl7 := (List.map_eq_nil_iff.mp hpl7.symm)
                rw [hpl7] at hmem
                cases hmem
              | cons a as' =>
                rw [ha] at hpl7
                cases hb : possible ws sc with
                | nil => rw [hb] at hmem; cases hmem
                | cons e es =>
                  rw [hb] at hpl7
                  injection hpl7 with hpl7
                  cases hpl7
            obtain ⟨_, _, _, _, I7⟩ := S7
            obtain ⟨_, _, _, _, J7⟩ := ST7
            refine ⟨_, rfl, th, _, 1, _, rfl, rfl, SqT.of J7.top, atI_nat (j := 1) rfl, _, rfl, t, _, 1, _, rfl, rfl, SqT.of I7.top, atI_nat (j := 1) rfl, _, _, rfl, rfl, ?_⟩
            refine ⟨_, rfl, .inl ⟨rfl, _, SqL.of l7⟩, ?_⟩
            refine ⟨_, rfl, p7, _, 0, _, rfl, rfl, SqT.of h2, atI_nat (j := 0) rfl, _, rfl, _, _, rfl, rfl, _, rfl, (by show 2 ≤ sizeLine; decide), fun a1 ha1 => ?_⟩
            have h3' := upd_new ha1 h3 (o := .tup [.int (val cfg 1 ws (after cfg ws sc ev) + ((after cfg ws sc ev).stalls - sc.stalls)), .str (evS ev)])
            refine ⟨_, rfl, q7, _, 0, _, rfl, rfl, SqT.of h3', atI_nat (j := 0) rfl, _, rfl, _, _, rfl, rfl, _, rfl, (by show 2 ≤ sizeLine; decide), fun a2 ha2 => ⟨(by show 2 ≤ sizeLine; decide), fun a3 ha3 => ?_⟩⟩
            have sA := same_new (same_new (same_new (Same.refl H7) ha1 (o := .tup [.int (val cfg 1 ws (after cfg ws sc ev) + ((after cfg ws sc ev).stalls - sc.stalls)), .str (evS ev)])) ha2 (o := .tup [.int (val cfg (-1) ws (after cfg ws sc ev) + ((after cfg ws sc ev).stalls - sc.stalls)), .str (evS ev)])) ha3 (o := .tup [.ref a1, .ref a2])
            have hrow : RowT (upd (upd (upd H7 a1 (.tup [.int (val cfg 1 ws (after cfg ws sc ev) + ((after cfg ws sc ev).stalls - sc.stalls)), .str (evS ev)])) a2 (.tup [.int (val cfg (-1) ws (after cfg ws sc ev) + ((after cfg ws sc ev).stalls - sc.stalls)), .str (evS ev)])) a3 (.tup [.ref a1, .ref a2])) ws cfg sc a3 ev :=
              ⟨a1, a2, upd_same, upd_new ha3 (upd_new ha2 upd_same), upd_new ha3 upd_same⟩
            have l8 := sA _ _ l7
            have hpl8 := sA _ _ hpl7
            have D8 := D7.mono sA
            have k8 := k7.mono sA
            have I8 : SceneAt _ t sc := SceneAt.mono ⟨_, _, _, _, I7⟩ sA
            have eb8 := eb7.trans (EB.of sA)
            have hA8 := hA7.mono fun _ _ z => RowT.kt z (KT2.of sA)
            refine ⟨l, _, _, rfl, rfl, l8, ?_, ?_⟩
            · have e1 := hA7.len
              rw [List.length_take] at e1
              have e2 := possible_len ws sc
              rw [List.length_map]
              exact small1000 (by omega)
            · generalize upd (upd (upd H7 a1 _) a2 _) a3 _ = H8 at *
              have kt9 : KT2 H8 (upd H8 l (.lst (as.map V.ref ++ [.ref a3]))) := KT2.put l8 (fun _ z => nomatch z)
              refine ⟨_, _, _, _, _, rows7, as ++ [a3], rfl, ?_, D8.upd l8 Bl (fun _ z => nomatch z) (fun _ z => nomatch z) nld (fun _ z => by unfold CodeO at z; cases z), I8.kt kt9, k8.kt kt9, ?_, ?_, ?_⟩
              · intro b o hb ho ht
                rw [upd_ne (fun z => by rw [z, Hl] at ho; cases ho)]
                exact eb8 b o hb ho ht
              · rw [upd_ne nlp.symm]
                exact hpl8
              · rw [upd_same, List.map_append]
                rfl
              · rw [List.take_add_one, hev]
                exact (hA8.mono fun _ _ z => RowT.kt z kt9).snoc (hrow.kt kt9)
        · rintro σ H8 ⟨u4, u5, u6, u7, u8, rows8, as, rfl, eb8, D8, S8, k8, hpl8, l8, hA8⟩
          rw [List.length_map, List.take_length] at hA8
          refine ⟨fun σ H' => ∃ (H9 : Hp) (z1 z2 z3 : Addr), σ = [some (.ref x), some (.ref t), some (.ref p), some (.ref l), u4, u5, u6, u7, u8, none, none] ∧ H' = upd H9 d (dN P w ES d (putN rows8 (SKey.of sc) p (.ref z1))) ∧ EB d H H9 ∧ SrAt P w K T B H9 x r st d cfg ws rows8 ∧
            NK H9 (.ref p) (ES.enc (SKey.of sc)) ∧ H9 l = some (.lst (as.map V.ref)) ∧ All2 (RowT H9 ws cfg sc) as (possible ws sc) ∧ H9 z1 = some (.tup [.ref z2, .ref z3]) ∧ H9 z2 = some (.tup [.int 0, .non]) ∧ H9 z3 = some (.tup [.int 0, .non]), ?_, ?_⟩
          · refine ⟨(by show 2 ≤ sizeLine; decide), fun a1 h1 => ⟨(by show 2 ≤ sizeLine; decide), fun a2 h2 => ⟨(by show 2 ≤ sizeLine; decide), fun a3 h3 => ?_⟩⟩⟩
            have sA := same_new (same_new (same_new (Same.refl H8) h1 (o := .tup [.int 0, .non])) h2 (o := .tup [.int 0, .non])) h3 (o := .tup [.ref a1, .ref a2])
            have D9 := D8.mono sA
            have e3 : (upd (upd (upd H8 a1 (.tup [.int 0, .non])) a2 (.tup [.int 0, .non])) a3 (.tup [.ref a1, .ref a2])) a3 = some (.tup [.ref a1, .ref a2]) := upd_same
            have e1 : (upd (upd (upd H8 a1 (.tup [.int 0, .non])) a2 (.tup [.int 0, .non])) a3 (.tup [.ref a1, .ref a2])) a1 = some (.tup [.int 0, .non]) := upd_new h3 (upd_new h2 upd_same)
            have e2 : (upd (upd (upd H8 a1 (.tup [.int 0, .non])) a2 (.tup [.int 0, .non])) a3 (.tup [.ref a1, .ref a2])) a2 = some (.tup [.int 0, .non]) := upd_new h3 upd_same
            generalize upd (upd (upd H8 a1 (.tup [.int 0, .non])) a2 (.tup [.int 0, .non])) a3 (.tup [.ref a1, .ref a2]) = H9 at *
            exact ⟨_, rfl, x, _, dx, _, _, rfl, D9.same _ _ hx, Tx.c_Searched, Tx.n_Searched_known, lk_Searched_known, _, rfl, d, p, SKey.of sc, rows8, rfl, rfl, D9.dict, D9.keys, k8.mono sA, D9.len,
              H9, a3, a1, a2, rfl, rfl, eb8.trans (EB.of sA), D9, k8.mono sA, sA _ _ l8, hA8.mono fun _ _ z => RowT.kt z (KT2.of sA), e3, e1, e2⟩
          · clear l8 hpl8 k8 S8 D8 eb8 hA8
            rintro _ _ ⟨H9, z1, z2, z3, rfl, rfl, eb9, D9, k9, l9, hA9, e1, e2, e3⟩
            have hlA : as.length ≤ 4 := by
              rw [hA9.len]
              exact possible_len ws sc
            have kt10 : KT2 H9 (upd H9 d (dN P w ES d (putN rows8 (SKey.of sc) p (.ref z1)))) := KT2.put D9.dict dN_tup
            have l10 : (upd H9 d (dN P w ES d (putN rows8 (SKey.of sc) p (.ref z1)))) l = some (.lst (as.map V.ref)) := by rw [upd_ne nld]; exact l9
            refine ⟨_, rfl, (by show 0 ≤ sizeLine; decide), fun e he => ?_⟩
            have s11 : Same (upd H9 d (dN P w ES d (putN rows8 (SKey.of sc) p (.ref z1)))) (upd (upd H9 d (dN P w ES d (putN rows8 (SKey.of sc) p (.ref z1)))) e (.lst [])) := same_new (Same.refl _) he
            have he11 : (upd (upd H9 d (dN P w ES d (putN rows8 (SKey.of sc) p (.ref z1)))) e (.lst [])) e = some (.lst []) := upd_same
            have l11 := s11 _ _ l10
            have hT11 : Tabs T (upd (upd H9 d (dN P w ES d (putN rows8 (SKey.of sc) p (.ref z1)))) e (.lst [])) := (tabs_upd D9.tabs D9.dict dN_tbl dN_code).ext s11
            generalize hH10 : upd H9 d (dN P w ES d (putN rows8 (SKey.of sc) p (.ref z1))) = H10 at *
            generalize upd H10 e (.lst []) = H11 at s11 he11 l11 hT11
            have kt11 := kt10.trans (KT2.of s11)
            obtain ⟨ds, hds, dl, lay1, lay2⟩ := rows_dp (K := K) (hA9.mono fun _ _ z => RowT.kt z kt11)
            have eb11 : EB d H H11 := (by rw [← hH10] at s11; exact eb9.trans (EB.put.trans (EB.of s11)))
            have d11 : H11 d = some (dN P w ES d (putN rows8 (SKey.of sc) p (.ref z1))) := s11 _ _ (by rw [← hH10]; exact upd_same)
            have e11 : ExtN (L2.upd H9 d (dN P w ES d (putN rows8 (SKey.of sc) p (.ref z1)))) H11 := by
              rw [hH10]
              exact en_of_same s11
            refine ⟨_, _, .lst (SqL.of l11) hds, .lst (SqL.of he11) .nil, list_shaped lay1 lay2, rfl, ?_⟩
            by_cases hp : possible ws sc = []
            · have eas : as = [] := by
                rw [hp] at hA9
                exact List.length_eq_zero_iff.mp hA9.len
              have eds : ds = [] := by
                rw [eas] at dl
                exact List.length_eq_zero_iff.mp dl
              subst eds
              refine ⟨_, rfl, iteBn rfl ?_⟩
              have va : VAns cfg ws H9 (.ref z1) sc := ⟨z1, z2, z3, .non, .non, rfl, e1, by rw [LW.val_nil scn.j hp]; exact e2, by rw [LW.val_nil scn.j hp]; exact e3, .inl ⟨hp, rfl⟩, .inl ⟨hp, rfl⟩⟩
              have D10 := D9.put hR k9 va
              rw [hH10] at D10
              exact fin eb11 (D10.mono s11) (k9.kt kt11) valN_put
            · have eds : ds ≠ [] := fun z => by
                rw [z] at dl
                have := hA9.len
                rw [← dl] at this
                exact hp (List.length_eq_zero_iff.mp this.symm)
              obtain ⟨d0, ds', rfl⟩ := List.exists_cons_of_ne_nil eds
              refine ⟨_, rfl, iteB rfl ?_⟩
              have hA11 := hA9.mono fun _ _ z => RowT.kt z kt11
              have hpos : 0 < (possible ws sc).length := List.length_pos_iff.mpr hp
              have hAc : All2 (fun a ev => ∃ q xs, H11 a = some (.tup xs) ∧ atI xs ((0 : Nat) : Int) = some (.ref q) ∧ PT cfg ws sc (1) H11 q ev) as (possible ws sc) := hA11.mono fun a ev z => by
                obtain ⟨p', q', g1, g2, g3⟩ := z
                exact ⟨p', _, g1, atI_nat (j := 0) rfl, g2⟩
              refine ⟨_, rfl, l, rfl, ⟨_, SqL.of l11⟩, fun L1 hLn => ?_⟩
              refine lc_list (K := K) (xs := as.map V.ref) (fun i H' => ∃ items : List Addr, Same H11 H' ∧ H' L1 = some (.lst (items.map V.ref)) ∧ All2 (PT cfg ws sc (1) H11) items ((possible ws sc).take i)) ⟨[], same_new (Same.refl _) hLn, upd_same, All2.nil⟩ (fun i H' _ ⟨_, z, _⟩ => SqL.of (z _ _ l11)) (fun i y H' hi z => ?_) (fun H12 z => ?_)
              · obtain ⟨items, s2', hN, hI⟩ := z
                obtain ⟨a, ea, rfl⟩ := ref_at hi
                obtain ⟨ev, hev, q1, xs, g1, g2, g3⟩ := hAc.get' ea
                refine ⟨rfl, ?_⟩
                refine iteT (B := False) ?_
                have len := hI.len
                rw [List.length_take] at len
                have l2 := hAc.len
                refine ⟨_, rfl, a, xs, ((0 : Nat) : Int), _, rfl, rfl, SqT.of (s2' _ _ g1), g2, _, hN, by rw [List.length_map]; exact small1000 (by omega), items ++ [q1], same_put s2' hLn, ?_, ?_⟩
                · rw [upd_same, List.map_append]
                  rfl
                · rw [List.take_add_one, hev]
                  exact hI.snoc g3
              obtain ⟨it1, s12, hL1, hI10⟩ := z
              rw [List.length_map, hAc.len, List.take_length] at hI10
              have hI1 : All2 (PT cfg ws sc (1) H12) it1 (possible ws sc) := hI10.mono fun _ _ z => s12 _ _ z
              refine ⟨L1, it1, numV cfg ws sc 1, rfl, hL1, by rw [hI1.len]; exact hpos, fun i a hi => numT hI1 hi, hT11.ext s12, fun H13 e13 T13 i1 a1 hi1 hb1 => ?_⟩
              obtain ⟨ev1, hev1, ha1⟩ := pick (Or.inl rfl) D.fit scn hI1 hi1 fun j hj => by
                have := hb1 j hj
                omega
              have x13 : ExtN H11 H13 := (en_of_same s12).trans e13
              have ha13 := e13 _ _ ha1 fun _ z => nomatch z
              have l13 := x13 _ _ l11 fun _ z => nomatch z
              refine ⟨_, rfl, ?_⟩
              have hAc : All2 (fun a ev => ∃ q xs, H13 a = some (.tup xs) ∧ atI xs ((1 : Nat) : Int) = some (.ref q) ∧ PT cfg ws sc (-1) H13 q ev) as (possible ws sc) := hA11.mono fun a ev z => by
                obtain ⟨p', q', g1, g2, g3⟩ := RowT.kt z (KT2.en x13)
                exact ⟨q', _, g1, atI_nat (j := 1) rfl, g3⟩
              refine ⟨_, rfl, l, rfl, ⟨_, SqL.of l13⟩, fun L2 hLn => ?_⟩
              refine lc_list (K := K) (xs := as.map V.ref) (fun i H' => ∃ items : List Addr, Same H13 H' ∧ H' L2 = some (.lst (items.map V.ref)) ∧ All2 (PT cfg ws sc (-1) H13) items ((possible ws sc).take i)) ⟨[], same_new (Same.refl _) hLn, upd_same, All2.nil⟩ (fun i H' _ ⟨_, z, _⟩ => SqL.of (z _ _ l13)) (fun i y H' hi z => ?_) (fun H14 z => ?_)
              · obtain ⟨items, s2', hN, hI⟩ := z
                obtain ⟨a, ea, rfl⟩ := ref_at hi
                obtain ⟨ev, hev, q1, xs, g1, g2, g3⟩ := hAc.get' ea
                refine ⟨rfl, ?_⟩
                refine iteT (B := False) ?_
                have len := hI.len
                rw [List.length_take] at len
                have l2 := hAc.len
                refine ⟨_, rfl, a, xs, ((1 : Nat) : Int), _, rfl, rfl, SqT.of (s2' _ _ g1), g2, _, hN, by rw [List.length_map]; exact small1000 (by omega), items ++ [q1], same_put s2' hLn, ?_, ?_⟩
                · rw [upd_same, List.map_append]
                  rfl
                · rw [List.take_add_one, hev]
                  exact hI.snoc g3
              obtain ⟨it2, s14, hL2, hI20⟩ := z
              rw [List.length_map, hAc.len, List.take_length] at hI20
              have hI2 : All2 (PT cfg ws sc (-1) H14) it2 (possible ws sc) := hI20.mono fun _ _ z => s14 _ _ z
              refine ⟨L2, it2, numV cfg ws sc (-1), rfl, hL2, by rw [hI2.len]; exact hpos, fun i a hi => numT hI2 hi, T13.ext s14, fun H15 e15 T15 i2 a2 hi2 hb2 => ?_⟩
              obtain ⟨ev2, hev2, ha2⟩ := pick (Or.inr rfl) D.fit scn hI2 hi2 fun j hj => by
                have := hb2 j hj
                omega
              have x15 : ExtN H11 H15 := x13.trans ((en_of_same s14).trans e15)
              have ha15 := e15 _ _ ha2 fun _ z => nomatch z
              have hb15 := ((en_of_same s14).trans e15) _ _ ha13 fun _ z => nomatch z
              refine ⟨(by show 2 ≤ sizeLine; decide), fun z hz => ?_⟩
              have s16 : Same H15 (upd H15 z (.tup [.ref a1, .ref a2])) := same_new (Same.refl _) hz
              have hz16 : (upd H15 z (.tup [.ref a1, .ref a2])) z = some (.tup [.ref a1, .ref a2]) := upd_same
              generalize upd H15 z (.tup [.ref a1, .ref a2]) = H16 at s16 hz16
              have x16 : ExtN H11 H16 := x15.trans (en_of_same s16)
              have va : VAns cfg ws H16 (.ref z) sc := ⟨z, a1, a2, _, _, rfl, hz16, s16 _ _ hb15, s16 _ _ ha15, .inr ⟨ev1, hev1, rfl⟩, .inr ⟨ev2, hev2, rfl⟩⟩
              have x9 := e11.trans x16
              have T16 := T15.ext s16
              have F := D9.put2 hR k9 x9 T16 va
              have d16 := x16 _ _ d11 dN_tbl
              have kt16 := kt11.trans (KT2.en x16)
              have B16 : Same B H16 := D9.nt.same (same_put D9.same D9.fd) x9
              refine ⟨_, rfl, x, _, dx, _, _, rfl, B16 _ _ hx, Tx.c_Searched, Tx.n_Searched_known, lk_Searched_known, _, rfl, d, p, SKey.of sc, _, rfl, rfl, d16, (D9.keys.put _ k9).kt kt16, k9.kt kt16, D9.lenPut hR, ?_⟩
              refine fin (eb11.trans ((EB.en x16).trans EB.put)) F ((k9.kt kt16).kt (KT2.put d16 dN_tup)) valN_put
end
end Lw

namespace Lw
open PySem PySem.Spec PyProof.Rows L2 LamX
open LW (Hold Mode Pol Cfg Write Side Scene Parts Way Rule Ev possible val scene0 mu after canWrite)
section
variable {P : Program} {w : World} {K : PySem.W.Frag} {mg : Str → Option Value} {base : Heap} {c Pt : Addr} {T : List (Addr × Str)}
def spSeq (P : Program) (w : World) (K : PySem.W.Frag) (T : List (Addr × Str)) (m : Nat) : Sp := fun vs H Q _ => ∃ (B : Hp) (x r st d : Addr) (cfg : Cfg) (ws : List Write) (rows : List (SKey × Addr × V)) (wh : Bool), vs = [.ref x, .int (eV wh)] ∧ SrAt P w K T B H x r st d cfg ws rows ∧ mu cfg ws scene0 < m ∧ m ≤ 1000 ∧
  ∀ (H' : Hp) (rows' : List (SKey × Addr × V)) (l : Addr), EB d H H' → SrAt P w K T B H' x r st d cfg ws rows' → Q (.ref l) H'
theorem c_sequence (Tx : Txt K mg) (TB : TabB base mg c Pt) (hc : codeOf K (d_Searched_from_here.adr K) = some c) (hm : (Pt, d_Searched_from_here.qual ++ ".<locals>." ++ "<lambda>") ∈ T) (hu : ∀ p ∈ T, p.1 = Pt → p.2 = d_Searched_from_here.qual ++ ".<locals>." ++ "<lambda>") (m : Nat) :
    Con P w K mg base (m + 7) (He.ma K (He.ga K "Searched") "sequence") ["self", "which"] [] (spSeq P w K T m) := by
  refine con_of Tx.d_Searched_sequence rfl rfl sc_Searched_sequence (fun _ _ _ _ _ _ us hl => match us, hl with | [_, _], _ => rfl) (fun vs H Q E h => ?_) (fun cdv A outer s H vs Q E hr h => ?_)
  · obtain ⟨B, x, r, st, d, cfg, ws, rows, wh, rfl, _⟩ := h
    rfl
  · obtain ⟨B, x, r, st, d, cfg, ws, rows, wh, rfl, D, hmu, hm1, q⟩ := h
    have nd := sc_Searched_sequence.nd
    have ih := c_from_here (P := P) (w := w) Tx TB hc hm hu m
    refine ⟨_, pss_cons (ps_par (i := 2) (j := 3) rfl nd rfl rfl (by decide) rfl rfl (pa_cons (meth_c0 (pe_fld (pv 0) rfl) Tx.c_Rules Tx.t_Rules_first (c_Rules_first Tx) (hr.mono (by omega))) (pa_cons (pe_lst pa_nil) pa_nil)) rfl)
      (pss_cons (ps_whileW PassesOwn.never (ptw_cmp op_notN (pew_named (i := 4) nd rfl (Or.inl rfl) (pew_of (pe_ix ix_tup (pe_ix ix_tup (meth_c (pv 0) Tx.c_Searched Tx.t_Searched_from_here ih hr (pa_cons (pv 2) pa_nil)) (pv 1) (fun _ _ => rfl)) pe_int (fun _ _ => rfl)))) pe_non rfl)
        (pss_cons (ps_expr (pe_bm PySem.F.plainAttrs_list PySem.F.slot_list_append PySem.F.type_list_append mt_append (pv 3) (pa_cons (pv 4) pa_nil)))
        (pss_one (ss 2 nd (meth_c (pe_fld (pv 0) rfl) Tx.c_Rules Tx.t_Rules_after (c_Rules_after Tx) (hr.mono (by omega)) (pa_cons (pv 2) (pa_cons (pv 4) pa_nil))))))
        pss_nil)
      (pss_one (ps_ret (pv 3)))), ?_⟩
    obtain ⟨dx, hx⟩ := D.ins
    obtain ⟨dr, wl, gl, hri, _, _⟩ := id D.rules
    refine ⟨_, rfl, x, _, dx, _, _, rfl, D.same _ _ hx, Tx.c_Searched, Tx.n_Searched_rules, lk_Searched_rules, r, dr, _, rfl, D.same _ _ hri, no_Rules_first, r, dr, [], rfl, fun t H1 s1 S1 => ?_⟩
    refine ⟨(by show 0 ≤ sizeLine; decide), fun l hl => ?_⟩
    have s2 := same_new s1 hl (o := .lst [])
    have D2 := D.mono s2
    have S2 := S1.mono (same_new (Same.refl _) hl (o := .lst []))
    have l2 : (upd H1 l (.lst [])) l = some (.lst []) := upd_same
    have Hl : H l = none := s1.free hl
    have Bl : B l = none := D.same.free Hl
    have nld : l ≠ d := fun z => by rw [z, s1 _ _ D.dict] at hl; cases hl
    generalize upd H1 l (.lst []) = H2 at s2 D2 S2 l2
    refine ⟨_, _, rfl, ?_⟩
    refine ⟨fun n σ H' => ∃ (t : Addr) (sc : Scene) (xs : List V) (u4 : Option V) (rows' : List (SKey × Addr × V)), σ = [some (.ref x), some (.int (eV wh)), some (.ref t), some (.ref l), u4] ∧ EB d H H' ∧ SrAt P w K T B H' x r st d cfg ws rows' ∧ SceneAt H' t sc ∧ Scn cfg ws sc ∧ Rch cfg ws sc ∧
      H' l = some (.lst xs) ∧ mu cfg ws sc < n ∧ n ≤ m ∧ xs.length + n ≤ 1000, ⟨m, t, scene0, [], none, rows, rfl, EB.of s2, D2, S2, scn0 D.fit, .init, l2, hmu, Nat.le_refl _, by simpa using hm1⟩, ?_⟩
    rintro n σ H3 ⟨t3, sc, xs, u4, rows3, rfl, eb3, D3, S3, scn, hR, l3, hn, hnm, hln⟩
    refine ⟨_, rfl, x, dx, _, rfl, D3.same _ _ hx, no_Searched_from_here, _, rfl, B, x, r, st, d, t3, cfg, ws, rows3, sc, rfl, D3, S3, scn, hR, (by omega), fun H4 rows4 v eb4 D4 va => ?_⟩
    have kt4 := eb4.kt D3.dict dN_tup
    have S4 := S3.kt kt4
    have l4 := eb4 _ _ nld l3 fun _ z => nomatch z
    have eb4' := eb3.trans eb4
    obtain ⟨t4, p4, q4, xx, yy, rfl, h1, h2, h3, e1, e2⟩ := va
    have key : ∃ (a : Addr) (i : Int) (z : V), atI [V.ref p4, V.ref q4] (eV wh) = some (.ref a) ∧ H4 a = some (.tup [.int i, z]) ∧ EvOk ws sc z := by
      cases wh
      · exact ⟨p4, _, xx, atI_nat (j := 0) rfl, h2, e1⟩
      · exact ⟨q4, _, yy, atI_nat (j := 1) rfl, h3, e2⟩
    obtain ⟨a, i, z, g1, g2, g3⟩ := key
    refine ⟨_, rfl, t4, _, _, _, rfl, rfl, SqT.of h1, g1, a, _, 1, _, rfl, rfl, SqT.of g2, atI_nat (j := 1) rfl, ?_⟩
    rcases g3 with ⟨hp, rfl⟩ | ⟨ev, hev, rfl⟩
    · refine ⟨rfl, _, rfl, iteBn rfl ?_⟩
      exact ⟨_, rfl, q H4 rows4 l eb4' D4⟩
    · have hS := scn.after D.fit hev
      obtain ⟨_, jm, _⟩ := LW.search_step (sg := 1) (Or.inl rfl) D.fit.ok D.fit.wok scn.j hev
      have mn := LW.mu_nn D.fit.ok D.fit.wok hS.j
      refine ⟨rfl, _, rfl, iteB rfl ?_⟩
      refine ⟨fun σ' H' => ∃ (t : Addr) (xs' : List V) (rows' : List (SKey × Addr × V)), σ' = [some (.ref x), some (.int (eV wh)), some (.ref t), some (.ref l), some (.str (evS ev))] ∧ EB d H H' ∧ SrAt P w K T B H' x r st d cfg ws rows' ∧ SceneAt H' t (after cfg ws sc ev) ∧ H' l = some (.lst xs') ∧ xs'.length = xs.length + 1,
        fun σ' H' ⟨t, xs', rows', e1, e2, e3, e4, e5, e6⟩ => ⟨n - 1, by omega, t, after cfg ws sc ev, xs', _, rows', e1, e2, e3, e4, hS, .step hR hev, e5, by omega, by omega, by omega⟩, ?_⟩
      refine ⟨_, rfl, .inl ⟨rfl, _, SqL.of l4⟩, _, rfl, l, _, _, rfl, rfl, l4, small1000 (by omega), ?_⟩
      have D5 := D4.upd l4 Bl (o := .lst (xs ++ [.str (evS ev)])) (fun _ z => nomatch z) (fun _ z => nomatch z) nld (fun _ z => by unfold CodeO at z; cases z)
      have S5 : SceneAt (upd H4 l (.lst (xs ++ [.str (evS ev)]))) t3 sc := S4.kt (KT2.put l4 fun _ z => nomatch z)
      have l5 : (upd H4 l (.lst (xs ++ [.str (evS ev)]))) l = some (.lst (xs ++ [.str (evS ev)])) := upd_same
      have eb5 : EB d H (upd H4 l (.lst (xs ++ [.str (evS ev)]))) := fun b o hb ho ht => by
        rw [upd_ne (fun z => by rw [z, Hl] at ho; cases ho)]
        exact eb4' b o hb ho ht
      generalize upd H4 l (.lst (xs ++ [.str (evS ev)])) = H5 at D5 S5 l5 eb5
      refine ⟨_, rfl, x, _, dx, _, _, rfl, D5.same _ _ hx, Tx.c_Searched, Tx.n_Searched_rules, lk_Searched_rules, r, dr, _, rfl, D5.same _ _ hri, no_Rules_after, _, rfl, _, rfl, r, st, t3, cfg, ws, sc, ev, rfl, D5.rules.mono D5.same, D5.set.mono D5.same, D5.fit, S5, scn, hev, fun th H6 s6 S6 => ?_⟩
      exact ⟨th, _, rows4, rfl, eb5.trans (EB.of s6), D5.mono s6, S6, s6 _ _ l5, by simp⟩
end
end Lw

namespace Lw
open PySem PySem.Spec PyProof.Rows L2 LamX
open LW (Hold Mode Pol Cfg Write Side Scene Parts Way Rule Ev possible val scene0 mu after canWrite best0 fut)
section
variable {P : Program} {w : World} {K : PySem.W.Frag} {mg : Str → Option Value} {base : Heap} {c Pt : Addr} {T : List (Addr × Str)}
def spSearch (K : PySem.W.Frag) (T : List (Addr × Str)) (m : Nat) : Sp := fun vs H Q _ => ∃ (st wa : Addr) (cfg : Cfg) (ws : List Write), vs = [.ref st, .ref wa] ∧ SetAt K H st cfg ∧ ConvAt H wa ws ∧ Fit cfg ws ∧ Small cfg ws ∧ Tabs T H ∧ mu cfg ws scene0 < m ∧ m ≤ 1000 ∧ fut cfg.size ws ≤ 24 ∧
  ∀ (H' : Hp) (t l1 l2 : Addr), ExtN H H' → Tabs T H' → H' t = some (.tup [.int (best0 cfg 1 ws), .ref l1, .int (best0 cfg (-1) ws), .ref l2]) → Q (.ref t) H'
theorem c_search (Tx : Txt K mg) (TB : TabB base mg c Pt) (hc : codeOf K (d_Searched_from_here.adr K) = some c) (hm : (Pt, d_Searched_from_here.qual ++ ".<locals>." ++ "<lambda>") ∈ T) (hu : ∀ p ∈ T, p.1 = Pt → p.2 = d_Searched_from_here.qual ++ ".<locals>." ++ "<lambda>") (m : Nat) :
    Con P w K mg base (m + 8) (He.ga K "search") ["setting", "conversation"] [] (spSearch K T m) := by
  refine con_of Tx.d_search rfl rfl sc_search (fun _ _ _ _ _ _ us hl => match us, hl with | [_, _], _ => rfl) (fun vs H Q E h => ?_) (fun cdv A outer s H vs Q E hr h => ?_)
  · obtain ⟨st, wa, cfg, ws, rfl, _⟩ := h
    rfl
  · obtain ⟨st, wa, cfg, ws, rfl, hS, hW, fit, sm, hT, hmu, hm1, hf, q⟩ := h
    have nd := sc_search.nd
    obtain ⟨tg, gm⟩ := Tx.i_MOST_SEARCHED
    have ih := c_from_here (P := P) (w := w) Tx TB hc hm hu m
    have ih2 := c_sequence (P := P) (w := w) Tx TB hc hm hu m
    refine ⟨_, pss_cons (ss 2 nd (make_c Tx.m_Searched (c_Searched_init (P := P) (w := w) Tx) (hr.mono (by omega)) Tx.g_Searched (pa_cons (make_c Tx.m_Rules (c_Rules_init Tx) (hr.mono (by omega)) Tx.g_Rules (pa_cons (pv 0) (pa_cons (pv 1) (pa_cons (gint gm) pa_nil)))) pa_nil)))
      (pss_cons (ps_asg (meth_c (pv 2) Tx.c_Searched Tx.t_Searched_from_here ih (hr.mono (by omega)) (pa_cons (meth_c0 (pe_fld (pv 2) rfl) Tx.c_Rules Tx.t_Rules_first (c_Rules_first Tx) (hr.mono (by omega))) pa_nil)) (pg_tup rfl (pgs_cons (gn 3 nd) (pgs_cons (gn 4 nd) pgs_nil))))
      (pss_one (ps_ret (pe_tup (pa_cons (pe_ix ix_tup (pv 3) pe_int (fun _ _ => rfl)) (pa_cons (meth_c (pv 2) Tx.c_Searched Tx.t_Searched_sequence ih2 hr (pa_cons pe_int pa_nil)) (pa_cons (pe_ix ix_tup (pv 4) pe_int (fun _ _ => rfl)) (pa_cons (meth_c (pv 2) Tx.c_Searched Tx.t_Searched_sequence ih2 hr (pa_cons pe_int pa_nil)) pa_nil)))))))), ?_⟩
    refine ⟨_, rfl, _, rfl, fun xr dr hx0 hd0 hn => ?_⟩
    refine ⟨xr, dr, st, wa, 24, cfg, ws, H, rfl, upd_same, made_same hx0 hd0 hn (Same.refl H), hx0, hS, hW, fit, hf, fun H1 s1 R1 => ⟨rfl, fun x dx hx1 hd1 hn1 => ?_⟩⟩
    refine ⟨x, dx, xr, rfl, upd_same, fun d H2 hd heq hd2 hx2 => ⟨rfl, ?_⟩⟩
    have s12 : Same H1 H2 := fun b o hb => by
      have h1 := made_same (o1 := HO.own x) (o2 := HO.ins (He.ga K "Searched") dx []) hx1 hd1 hn1 (Same.refl H1) b o hb
      rw [heq b (fun z => by rw [z, hx1] at hb; cases hb) (fun z => by rw [z] at h1; rw [hd] at h1; cases h1)]
      exact h1
    have nxd : x ≠ d := fun z => by rw [z] at hx2; rw [hx2] at hd2; exact nomatch hd2
    have s02 : Same H H2 := s1.trans s12
    have H1d : H1 d = none := by
      cases e : H1 d with
      | none => rfl
      | some o =>
        have h1 := made_same (o1 := HO.own x) (o2 := HO.ins (He.ga K "Searched") dx []) hx1 hd1 hn1 (Same.refl H1) d o e
        exact absurd (hd.symm.trans h1) (fun z => nomatch z)
    have eN : ExtN H1 (cut (cutH H2 d)) := fun b o hb hn => cut_some.mpr ⟨cutH_of (s12 b o hb) (fun z => by rw [z, H1d] at hb; cases hb), hn⟩
    have D : SrAt P w K T (cut (cutH H2 d)) H2 x xr st d cfg ws [] := by
      refine ⟨(cut_same _).trans cutH_same, cut_noT _, cut_none cutH_at, ⟨dx, cut_some.mpr ⟨cutH_of hx2 nxd, fun _ z => nomatch z⟩⟩, RulesAt.en R1 eN, (hS.mono s1).en eN, fit, sm, hd2, (fun x hx => nomatch hx), List.nodup_nil, (fun x hx => nomatch hx), hT.ext s02⟩
    have Hd : H d = none := s1.free H1d
    have fin : ∀ {H' : Hp}, EB d H2 H' → ExtN H H' := fun e b o hb hn => e b o (fun z => by rw [z, Hd] at hb; cases hb) (s02 b o hb) hn
    clear eN heq
    obtain ⟨dxx, hxB⟩ := D.ins
    obtain ⟨drr, wl, gl, hri, _, _⟩ := id D.rules
    refine ⟨_, rfl, x, dxx, _, rfl, D.same _ _ hxB, no_Searched_from_here, _, rfl, x, _, dxx, _, _, rfl, D.same _ _ hxB, Tx.c_Searched, Tx.n_Searched_rules, lk_Searched_rules, xr, drr, _, rfl, D.same _ _ hri, no_Rules_first, xr, drr, [], rfl, fun t H3 s3 S3 => ?_⟩
    have D3 := D.mono s3
    refine ⟨_, x, xr, st, d, t, cfg, ws, [], scene0, rfl, D3, S3, scn0 fit, .init, hmu, fun H4 rows4 v eb4 D4 va => ?_⟩
    obtain ⟨t4, p4, q4, xx, yy, rfl, h1, h2, h3, _, _⟩ := va
    rw [LW.val0 fit.ok] at h2 h3
    have eb24 := (EB.of (d := d) s3).trans eb4
    refine ⟨t4, _, rfl, SqT.of h1, rfl, _, _, rfl, _, _, rfl, rfl, ?_⟩
    refine ⟨_, rfl, p4, _, 0, _, rfl, rfl, SqT.of h2, atI_nat (j := 0) rfl, ?_⟩
    refine ⟨_, rfl, x, dxx, _, rfl, D4.same _ _ hxB, no_Searched_sequence, _, x, xr, st, d, cfg, ws, rows4, false, rfl, D4, hmu, hm1, fun H5 rows5 l5 eb5 D5 => ?_⟩
    have kt5 := eb5.kt D4.dict dN_tup
    refine ⟨_, rfl, q4, _, 0, _, rfl, rfl, SqT.of (kt5.t _ _ h3), atI_nat (j := 0) rfl, ?_⟩
    refine ⟨_, rfl, x, dxx, _, rfl, D5.same _ _ hxB, no_Searched_sequence, _, x, xr, st, d, cfg, ws, rows5, true, rfl, D5, hmu, hm1, fun H6 rows6 l6 eb6 D6 => ?_⟩
    refine ⟨(by show 4 ≤ sizeLine; decide), fun z hz => ?_⟩
    have s7 := same_new (Same.refl H6) hz (o := .tup [.int (best0 cfg 1 ws), .ref l5, .int (best0 cfg (-1) ws), .ref l6])
    exact q _ z l5 l6 (fin (eb24.trans (eb5.trans (eb6.trans (EB.of s7))))) (D6.mono s7).tabs upd_same
end
end Lw

namespace Lw
open PySem PySem.Spec PyProof.Rows L2
open LW (Hold Mode Pol Cfg Write Side Scene Parts Way Rule Ev possible val scene0 mu after fut)
section
variable {cfg : Cfg} {ws : List Write}
theorem Rch.hst (h : Fit cfg ws) : ∀ {sc : Scene}, Rch cfg ws sc → LW.Hst cfg ws sc
  | _, .init => LW.hst0 h.ok
  | _, .step r he => LW.hst_after h.ok h.wok (Rch.hst h r) he
/-- the keys are not too many -/
theorem small_of (h : Fit cfg ws) (hf : fut cfg.size ws ≤ 20) : Small cfg ws := by
  intro ks hk ha
  have hm : mu cfg ws scene0 < (106 : Nat) := by
    rw [LW.mu0 h.ok]
    have := h.n5
    omega
  have sub : ∀ k ∈ ks, k ∈ (LW.codes cfg ws 106).map SKey.of := by
    intro k hk
    obtain ⟨sc, hr, e⟩ := ha k hk
    have := LW.hst_code h.ok h.wok h.n5 hm (hr.hst h)
    exact List.mem_map.mpr ⟨_, this, e⟩
  have l := LW.nodup_le hk sub
  rw [List.length_map, LW.codes_len] at l
  have : 1365 * (106 * 106) < sizeLine := by decide
  omega
end
end Lw

namespace Lw
open PySem PySem.Spec PyProof.Rows L2
section
variable {P : Program} {w : World} {K : PySem.W.Frag} {mg : Str → Option Value} {base : Heap}
/-- the bag of a law: a list of two numbers -/
structure BagOk (x y : Int) : Prop where
  x0 : 0 ≤ x
  y0 : 0 ≤ y
  y1 : y < 2147483648
def bagL (x y : Int) : HO := .lst [.int x, .int y]
def spTake : Sp := fun vs H Q _ => ∃ (l : Addr) (m x y : Int), vs = [.ref l, .int m] ∧ H l = some (bagL x y) ∧ BagOk x y ∧ 0 < m ∧ m < 1073741824 ∧
  ∀ v x' y', 0 ≤ v → v < m → BagOk x' y' → Q (.int v) (upd H l (bagL x' y'))
theorem c_law_take (T : Txt K mg) : Con P w K mg base 1 (He.ga K "_law_take") ["_law_bag_here", "_law_many"] [] spTake := by
  refine con_of T.d_law_take rfl rfl sc_law_take (fun _ _ _ _ _ _ us hl => match us, hl with | [_, _], _ => rfl) (fun vs H Q E h => ?_) (fun cdv A outer s H vs Q E hr h => ?_)
  · obtain ⟨l, m, x, y, rfl, _⟩ := h
    rfl
  · obtain ⟨l, m, x, y, rfl, hl, ok, m0, m1, q⟩ := h
    have nd := sc_law_take.nd
    refine ⟨_, pss_cons (ps_if (pt_cmpR op_gt (pe_ix ix_list (pv 0) pe_int (fun _ _ => rfl)) pe_int (nomark _))
        (pss_cons (ss 2 nd (pe_op op_modN (ty call_int1 T.f_int (pa_cons (pe_ix ix_list (pv 0) pe_int (fun _ _ => rfl)) pa_nil)) (pv 1)))
        (pss_cons (ps_asg (pe_op op_fdivN (pe_ix ix_list (pv 0) pe_int (fun _ _ => rfl)) (pv 1)) (pg_sub (pv 0) pe_int set_list))
        (pss_one (ps_ret (pv 2))))) pss_nil)
      (pss_cons (ps_asg (pe_op op_modN (ty call_int1 T.f_int (pa_cons (pe_op op_add (pe_op op_mul (pe_ix ix_list (pv 0) pe_int (fun _ _ => rfl)) pe_int) pe_int) pa_nil)) pe_int) (pg_sub (pv 0) pe_int set_list))
      (pss_one (ps_ret (pe_op op_modN (pe_op op_modN (ty call_int1 T.f_int (pa_cons (pe_op op_mul (pe_op op_fdivN (pe_ix ix_list (pv 0) pe_int (fun _ _ => rfl)) pe_int) pe_int) pa_nil)) pe_int) (pv 1))))), ?_⟩
    have a0 : atI [V.int x, V.int y] 0 = some (.int x) := atI_nat (j := 0) rfl
    have a1 : atI [V.int x, V.int y] 1 = some (.int y) := atI_nat (j := 1) rfl
    refine ⟨_, rfl, l, _, _, _, rfl, rfl, SqL.of hl, a0, _, _, rfl, rfl, _, rfl, ?_⟩
    by_cases hx : (0 : Int) < x
    · refine iteD hx ?_
      refine ⟨_, rfl, l, _, _, _, rfl, rfl, SqL.of hl, a0, .inl ⟨_, rfl, ?_⟩⟩
      refine ⟨_, rfl, _, _, rfl, rfl, by omega, ?_⟩
      refine ⟨_, rfl, l, _, _, _, rfl, rfl, SqL.of hl, a0, _, rfl, _, _, rfl, rfl, ⟨by omega, by omega⟩, ?_⟩
      refine ⟨_, rfl, l, _, 0, 0, rfl, rfl, hl, rfl, ?_⟩
      refine ⟨_, rfl, ?_⟩
      have f1 : 0 ≤ x.fmod m := Int.fmod_nonneg_of_pos _ m0
      have f2 : x.fmod m < m := Int.fmod_lt_of_pos _ m0
      have f3 : 0 ≤ x.fdiv m := Int.fdiv_nonneg (by omega) (by omega)
      exact q _ (x.fdiv m) y f1 f2 ⟨f3, ok.y0, ok.y1⟩
    · refine iteDn hx ?_
      have y0 := ok.y0
      have y1 := ok.y1
      refine ⟨_, rfl, l, _, _, _, rfl, rfl, SqL.of hl, a1, _, _, rfl, rfl, .inl ⟨by omega, by omega⟩, _, _, rfl, rfl, .inl ⟨_, rfl, _, _, rfl, rfl, by omega, ?_⟩⟩
      refine ⟨_, rfl, l, _, 1, 1, rfl, rfl, hl, rfl, ?_⟩
      have f1 : 0 ≤ (y * 48271 + 11).fmod 2147483647 := Int.fmod_nonneg_of_pos _ (by decide)
      have f2 : (y * 48271 + 11).fmod 2147483647 < 2147483647 := Int.fmod_lt_of_pos _ (by decide)
      obtain ⟨y', hy⟩ : ∃ y', y' = (y * 48271 + 11).fmod 2147483647 := ⟨_, rfl⟩
      rw [← hy] at f1 f2
      have hl2 : upd H l (.lst ([V.int x, V.int y].set 1 (V.int ((y * 48271 + 11).fmod 2147483647)))) l = some (.lst [.int x, .int y']) := by rw [hy]; exact upd_same
      have a1' : atI [V.int x, V.int y'] 1 = some (.int y') := atI_nat (j := 1) rfl
      have g0 : 0 ≤ y'.fdiv 8 := Int.fdiv_nonneg (by omega) (by omega)
      have g1 : y'.fdiv 8 < 2147483648 := by
        rw [Int.fdiv_eq_ediv_of_nonneg _ (by decide)]
        omega
      refine ⟨_, rfl, l, _, _, _, rfl, rfl, SqL.of hl2, a1', _, _, rfl, rfl, ⟨by omega, by omega⟩, _, _, rfl, rfl, .inl ⟨by omega, by omega⟩, .inl ⟨_, rfl, _, _, rfl, rfl, by omega, ?_⟩⟩
      refine ⟨_, rfl, _, _, rfl, rfl, by omega, ?_⟩
      have h1 : 0 ≤ ((y'.fdiv 8 * 69621).fmod 2147483629).fmod m := Int.fmod_nonneg_of_pos _ m0
      have h2 : ((y'.fdiv 8 * 69621).fmod 2147483629).fmod m < m := Int.fmod_lt_of_pos _ m0
      have := q _ x y' h1 h2 ⟨ok.x0, f1, by omega⟩
      rw [hy] at this ⊢
      exact this
/-- the script's number at a place (0 behind its end) makes the bag -/
def spBag (K : PySem.W.Frag) : Sp := fun vs H Q _ => ∃ (a : Addr) (ns : List Int) (i : Nat), vs = [.ref a, .int (i : Nat)] ∧ SqL K H a (ns.map V.int) ∧ ns.length ≤ 63 ∧ i ≤ 2 ∧
  ∀ l x y, H l = none → BagOk x y → Q (.ref l) (upd H l (bagL x y))
theorem c_law_bag (T : Txt K mg) : Con P w K mg base 1 (He.ga K "_law_bag") ["_law_script", "_law_at"] [] (spBag K) := by
  refine con_of T.d_law_bag rfl rfl sc_law_bag (fun _ _ _ _ _ _ us hl => match us, hl with | [_, _], _ => rfl) (fun vs H Q E h => ?_) (fun cdv A outer s H vs Q E hr h => ?_)
  · obtain ⟨a, ns, i, rfl, _⟩ := h
    rfl
  · obtain ⟨a, ns, i, rfl, hS, hn, hi, q⟩ := h
    have nd := sc_law_bag.nd
    refine ⟨_, pss_cons (ss 2 nd pe_int)
      (C8.pss_cut (ps_if (pt_cmpR op_lt (pv 1) (bi call_len_seq T.f_len (pa_cons (pv 0) pa_nil)) (nomark _)) (pss_one (ss 2 nd (bi call_abs T.f_abs (pa_cons (pe_ix ix_list (pv 0) (pv 1) (fun _ _ => rfl)) pa_nil)))) pss_nil)
      (pss_cons (ps_if (pt_cmpR op_ge (pv 2) (pe_op op_pow pe_int pe_int) (nomark _)) (pss_one (ps_ret (pe_lst (pa_cons (pv 2) (pa_cons pe_int pa_nil))))) pss_nil)
      (pss_one (ps_ret (pe_lst (pa_cons pe_int (pa_cons (pe_op op_add (pe_op op_modN (ty call_int1 T.f_int (pa_cons (pe_op op_add (pe_op op_mul (pe_op op_add (pv 2) pe_int) pe_int) (pe_op op_mul (pe_op op_add (pv 1) pe_int) pe_int)) pa_nil)) pe_int) pe_int) pa_nil))))))), ?_⟩
    refine ⟨fun σ H' => H' = H ∧ ∃ c : Int, 0 ≤ c ∧ σ = [some (.ref a), some (.int (i : Nat)), some (.int c)], ?_, ?_⟩
    · refine ⟨_, rfl, _, rfl, a, _, rfl, .inl hS, _, _, rfl, rfl, _, rfl, ?_⟩
      rw [List.length_map]
      by_cases hlt : ((i : Nat) : Int) < ((ns.length : Nat) : Int)
      · have hlt' : i < ns.length := by omega
        have e : (ns.map V.int)[i]? = some (.int ns[i]) := by rw [List.getElem?_map, List.getElem?_eq_getElem hlt']; rfl
        refine iteD hlt ⟨_, rfl, _, rfl, a, _, _, _, rfl, rfl, hS, atI_nat (j := i) e, _, rfl, rfl, _, ?_, rfl⟩
        split <;> omega
      · exact iteDn hlt ⟨rfl, 0, Int.le_refl _, rfl⟩
    · rintro _ _ ⟨rfl, c, c0, rfl⟩
      refine ⟨_, rfl, _, _, rfl, rfl, ⟨by decide, by decide, by decide⟩, _, _, rfl, rfl, _, rfl, ?_⟩
      have p18 : ((10 : Int) ^ (18 : Int).toNat) = 1000000000000000000 := by decide
      rw [p18]
      by_cases hc : (1000000000000000000 : Int) ≤ c
      · refine iteD hc ⟨_, rfl, (by show 2 ≤ sizeLine; decide), fun l hl => ?_⟩
        exact q l c 1 hl ⟨c0, by decide, by decide⟩
      · refine iteDn hc ⟨_, rfl, _, _, rfl, rfl, _, _, rfl, rfl, .inl ⟨by omega, by omega⟩, _, rfl, _, _, rfl, rfl, _, _, rfl, rfl, .inl ⟨by omega, by omega⟩, _, _, rfl, rfl, .inl ⟨_, rfl, _, _, rfl, rfl, by omega, _, _, rfl, rfl, (by show 2 ≤ sizeLine; decide), fun l hl => ?_⟩⟩
        have f1 : 0 ≤ ((c + 3) * 1103515245 + ((i : Nat) + 1) * 362436069).fmod 2147483629 := Int.fmod_nonneg_of_pos _ (by decide)
        have f2 : ((c + 3) * 1103515245 + ((i : Nat) + 1) * 362436069).fmod 2147483629 < 2147483629 := Int.fmod_lt_of_pos _ (by decide)
        exact q l 0 _ hl ⟨by decide, by omega, by omega⟩
end
end Lw

namespace Lw
open PySem PySem.Spec PyProof.Rows L2
open LW (Hold Mode Pol Cfg Write Side Scene Parts Way Rule)
/-- all but the bag stays -/
def Ex (l : Addr) (H H' : Hp) : Prop := ∀ b o, b ≠ l → H b = some o → H' b = some o
section
variable {P : Program} {w : World} {K : PySem.W.Frag} {mg : Str → Option Value} {base : Heap} {l : Addr} {H H' H'' : Hp}
theorem Ex.refl : Ex l H H := fun _ _ _ h => h
theorem Ex.trans (a : Ex l H H') (b : Ex l H' H'') : Ex l H H'' := fun c o n h => b c o n (a c o n h)
theorem Ex.of (s : Same H H') : Ex l H H' := fun b o _ h => s b o h
theorem Ex.put {o : HO} : Ex l H (upd H l o) := fun b u n h => by rw [upd_ne n]; exact h
theorem Ex.new {p : Addr} {o : HO} (h : H p = none) : Ex l H (upd H p o) := fun b u _ e => upd_new h e
theorem Ex.same {B : Hp} (e : Ex l H H') (s : Same B H) (hl : B l = none) : Same B H' := fun b o h => e b o (fun z => by rw [z, hl] at h; cases h) (s b o h)
theorem PolAt.ex {a : Addr} {p : Pol} {xs : List V} (h : PolAt K H a p) (hl : H l = some (.lst xs)) (e : Ex l H H') : PolAt K H' a p := by
  obtain ⟨dx, h⟩ := h
  exact ⟨dx, e _ _ (ne_of h hl (by intro z; cases z)) h⟩
/-- a place of a display of numbers -/
theorem at_in {xs : List Int} {v : Int} (h0 : 0 ≤ v) (h1 : v < xs.length) : ∃ j ∈ xs, atI (xs.map V.int) v = some (.int j) := by
  obtain ⟨n, rfl⟩ : ∃ n : Nat, v = (n : Int) := ⟨v.toNat, by omega⟩
  have hl : n < xs.length := by omega
  exact ⟨xs[n], List.getElem_mem hl, atI_nat (by rw [List.getElem?_map, List.getElem?_eq_getElem hl]; rfl)⟩
theorem at_hold {j : Int} (h : j ∈ [2, 2, 1, 0]) : ∃ h : Hold, atI [V.str "off", .str "partial", .str "all"] j = some (.str (hV h)) := by
  simp only [List.mem_cons, List.not_mem_nil, or_false] at h
  rcases h with rfl | rfl | rfl | rfl
  · exact ⟨.all, atI_nat (j := 2) rfl⟩
  · exact ⟨.all, atI_nat (j := 2) rfl⟩
  · exact ⟨.part, atI_nat (j := 1) rfl⟩
  · exact ⟨.off, atI_nat (j := 0) rfl⟩
def spLawPol (K : PySem.W.Frag) : Sp := fun vs H Q _ => ∃ (l : Addr) (x y : Int), vs = [.ref l] ∧ H l = some (bagL x y) ∧ BagOk x y ∧
  ∀ a H' p x' y', Ex l H H' → H' l = some (bagL x' y') → BagOk x' y' → PolAt K H' a p → PolOk p → H a = none → Q (.ref a) H'
theorem c_law_policy (T : Txt K mg) : Con P w K mg base 5 (He.ga K "_law_policy") ["_law_bag_here"] [] (spLawPol K) := by
  refine con_of T.d_law_policy rfl rfl sc_law_policy (fun _ _ _ _ _ _ us hl => match us, hl with | [_], _ => rfl) (fun vs H Q E h => ?_) (fun cdv A outer s H vs Q E hr h => ?_)
  · obtain ⟨l, x, y, rfl, _⟩ := h
    rfl
  · obtain ⟨l, x, y, rfl, hl, ok, q⟩ := h
    have nd := sc_law_policy.nd
    obtain ⟨fd, its, mv, G, kb⟩ := c_PolicyK (P := P) (w := w) (base := base) T
    obtain ⟨mc, TT, cr, cv, hT⟩ := T.holds
    have ct := c_law_take (P := P) (w := w) (base := base) T
    refine ⟨_, pss_cons (ss 1 nd (pe_ix ix_tup (ClX.pe_cval (gref T.g_Policy)) (pe_ix ix_tup (pe_tup (pa_cons pe_int (pa_cons pe_int (pa_cons pe_int (pa_cons pe_int pa_nil))))) (call_c ct (hr.mono (by decide)) T.g__law_take (pa_cons (pv 0) (pa_cons pe_int pa_nil))) (fun _ _ => rfl)) (fun _ _ => rfl)))
      (pss_one (ps_ret (pe_makeK T.m_Policy G hr rfl T.g_Policy kb pass0 (pa_cons (pv 1) pa_nil)
        (pk_cons (pe_ix ix_tup (pe_tup (pa_cons pe_int (pa_cons pe_int (pa_cons pe_int (pa_cons pe_int (pa_cons pe_int (pa_cons pe_int pa_nil))))))) (call_c ct (hr.mono (by decide)) T.g__law_take (pa_cons (pv 0) (pa_cons pe_int pa_nil))) (fun _ _ => rfl))
          (pk_cons (pe_ix ix_tup (pe_tup (pa_cons pe_int (pa_cons pe_int (pa_cons pe_int (pa_cons pe_int (pa_cons pe_int pa_nil)))))) (call_c ct (hr.mono (by decide)) T.g__law_take (pa_cons (pv 0) (pa_cons pe_int pa_nil))) (fun _ _ => rfl)) pk_nil))))), ?_⟩
    refine ⟨_, mc, _, _, rfl, cr, cv, (by show 4 ≤ sizeLine; decide), fun p1 hp1 => ?_⟩
    have hl1 := upd_new (o := .tup [V.int 2, .int 2, .int 1, .int 0]) hp1 hl
    refine ⟨_, rfl, l, 4, x, y, rfl, hl1, ok, by decide, by decide, fun v1 x1 y1 v10 v11 ok1 => ?_⟩
    obtain ⟨j1, m1, a1⟩ := at_in (xs := [2, 2, 1, 0]) v10 v11
    obtain ⟨h, ah⟩ := at_hold m1
    have n1 : p1 ≠ l := fun z => by rw [z, hl] at hp1; cases hp1
    have e1 : Ex l H (upd (upd H p1 (.tup [V.int 2, .int 2, .int 1, .int 0])) l (bagL x1 y1)) := (Ex.new hp1).trans Ex.put
    have t1 : upd (upd H p1 (.tup [V.int 2, .int 2, .int 1, .int 0])) l (bagL x1 y1) p1 = some (.tup [V.int 2, .int 2, .int 1, .int 0]) := by rw [upd_ne n1, upd_same]
    have l1 : upd (upd H p1 (.tup [V.int 2, .int 2, .int 1, .int 0])) l (bagL x1 y1) l = some (bagL x1 y1) := upd_same
    generalize upd (upd H p1 (.tup [V.int 2, .int 2, .int 1, .int 0])) l (bagL x1 y1) = H1 at e1 t1 l1
    refine ⟨p1, _, _, _, rfl, rfl, SqT.of t1, a1, TT, _, _, _, rfl, rfl, hT _, ah, ?_⟩
    -- Policy(..)
    refine ⟨_, rfl, (by show 6 ≤ sizeLine; decide), fun p2 hp2 => ?_⟩
    have hl2 := upd_new (o := .tup [V.int 2, .int 1, .int 3, .int 0, .int 2, .int 9]) hp2 l1
    refine ⟨_, rfl, l, 6, x1, y1, rfl, hl2, ok1, by decide, by decide, fun v2 x2 y2 v20 v21 ok2 => ?_⟩
    obtain ⟨j2, m2, a2⟩ := at_in (xs := [2, 1, 3, 0, 2, 9]) v20 v21
    have n2 : p2 ≠ l := fun z => by rw [z, l1] at hp2; cases hp2
    have e2 : Ex l H1 (upd (upd H1 p2 (.tup [V.int 2, .int 1, .int 3, .int 0, .int 2, .int 9])) l (bagL x2 y2)) := (Ex.new hp2).trans Ex.put
    have t2 : upd (upd H1 p2 (.tup [V.int 2, .int 1, .int 3, .int 0, .int 2, .int 9])) l (bagL x2 y2) p2 = some (.tup [V.int 2, .int 1, .int 3, .int 0, .int 2, .int 9]) := by rw [upd_ne n2, upd_same]
    have l2 : upd (upd H1 p2 (.tup [V.int 2, .int 1, .int 3, .int 0, .int 2, .int 9])) l (bagL x2 y2) l = some (bagL x2 y2) := upd_same
    generalize upd (upd H1 p2 (.tup [V.int 2, .int 1, .int 3, .int 0, .int 2, .int 9])) l (bagL x2 y2) = H2 at e2 t2 l2
    refine ⟨p2, _, _, _, rfl, rfl, SqT.of t2, a2, ?_⟩
    refine ⟨(by show 5 ≤ sizeLine; decide), fun p3 hp3 => ?_⟩
    have hl3 := upd_new (o := .tup [V.int 0, .int 0, .int 1, .int 2, .int 4]) hp3 l2
    refine ⟨_, rfl, l, 5, x2, y2, rfl, hl3, ok2, by decide, by decide, fun v3 x3 y3 v30 v31 ok3 => ?_⟩
    obtain ⟨j3, m3, a3⟩ := at_in (xs := [0, 0, 1, 2, 4]) v30 v31
    have n3 : p3 ≠ l := fun z => by rw [z, l2] at hp3; cases hp3
    have e3 : Ex l H2 (upd (upd H2 p3 (.tup [V.int 0, .int 0, .int 1, .int 2, .int 4])) l (bagL x3 y3)) := (Ex.new hp3).trans Ex.put
    have t3 : upd (upd H2 p3 (.tup [V.int 0, .int 0, .int 1, .int 2, .int 4])) l (bagL x3 y3) p3 = some (.tup [V.int 0, .int 0, .int 1, .int 2, .int 4]) := by rw [upd_ne n3, upd_same]
    have l3 : upd (upd H2 p3 (.tup [V.int 0, .int 0, .int 1, .int 2, .int 4])) l (bagL x3 y3) l = some (bagL x3 y3) := upd_same
    generalize upd (upd H2 p3 (.tup [V.int 0, .int 0, .int 1, .int 2, .int 4])) l (bagL x3 y3) = H3 at e3 t3 l3
    refine ⟨p3, _, _, _, rfl, rfl, SqT.of t3, a3, rfl, rfl, fun z dz hz hdz ne => ?_⟩
    have pok : PolOk ⟨h, j2, j3⟩ := by
      simp only [List.mem_cons, List.not_mem_nil, or_false] at m2 m3
      refine ⟨?_, ?_, ?_, ?_⟩ <;> simp only <;> omega
    refine ⟨z, dz, ⟨h, j2, j3⟩, rfl, pok, upd_same, rfl, ?_⟩
    rw [upd_upd]
    have e03 : Ex l H H3 := e1.trans (e2.trans e3)
    have sN : Same H3 (upd (upd H3 dz (.own z)) z (.ins (He.ga K "Policy") dz (f_Policy (hV h) j2 j3))) := same_new (same_new (Same.refl _) hdz) (by rw [upd_ne (Ne.symm ne)]; exact hz)
    have zl : H z = none := by
      cases e : H z with
      | none => rfl
      | some o =>
        by_cases c : z = l
        · rw [c, l3] at hz; cases hz
        · rw [e03 z o c e] at hz; cases hz
    exact q z _ ⟨h, j2, j3⟩ x3 y3 (e03.trans (Ex.of sN)) (sN _ _ l3) ok3 ⟨dz, upd_same⟩ pok zl
end
end Lw

namespace Lw
open PySem PySem.Spec PyProof.Rows L2
open LW (Hold Mode Pol Cfg Write Side Scene Parts Way Rule)
section
variable {P : Program} {w : World} {K : PySem.W.Frag} {mg : Str → Option Value} {base : Heap} {l : Addr} {H H' H'' : Hp}
def spLawSet (K : PySem.W.Frag) : Sp := fun vs H Q _ => ∃ (l : Addr) (x y : Int), vs = [.ref l, .int 5] ∧ H l = some (bagL x y) ∧ BagOk x y ∧
  ∀ a H' c x' y', Ex l H H' → H' l = some (bagL x' y') → BagOk x' y' → SetAt K H' a c → CfgOk c → c.size ≤ 5 → Q (.ref a) H'
theorem c_law_setting (T : Txt K mg) : Con P w K mg base 7 (He.ga K "_law_setting") ["_law_bag_here", "_law_limit"] [] (spLawSet K) := by
  refine con_of T.d_law_setting rfl rfl sc_law_setting (fun _ _ _ _ _ _ us hl => match us, hl with | [_, _], _ => rfl) (fun vs H Q E h => ?_) (fun cdv A outer s H vs Q E hr h => ?_)
  · obtain ⟨l, x, y, rfl, _⟩ := h
    rfl
  · obtain ⟨l, x, y, rfl, hl, ok, q⟩ := h
    have nd := sc_law_setting.nd
    have ct := c_law_take (P := P) (w := w) (base := base) T
    have cp := c_law_policy (P := P) (w := w) (base := base) T
    have cs := c_Setting (P := P) (w := w) (base := base) T
    refine ⟨_, pss_cons (ss 2 nd (pe_op op_add pe_int (call_c ct (hr.mono (by decide)) T.g__law_take (pa_cons (pv 0) (pa_cons (pv 1) pa_nil)))))
      (pss_cons (ss 3 nd (call_c cp (hr.mono (by decide)) T.g__law_policy (pa_cons (pv 0) pa_nil)))
      (pss_one (ps_ret (StX.pe_makeR T.m_Setting cs hr rfl T.g_Setting pass0 (pa_cons (pv 2) (pa_cons (pv 3) (pa_cons (call_c cp (hr.mono (by decide)) T.g__law_policy (pa_cons (pv 0) pa_nil)) pa_nil))))))), ?_⟩
    refine ⟨_, rfl, _, rfl, l, 5, x, y, rfl, hl, ok, by decide, by decide, fun v x1 y1 v0 v1 ok1 => ?_⟩
    refine ⟨_, _, rfl, rfl, ?_⟩
    have e1 : Ex l H (upd H l (bagL x1 y1)) := Ex.put
    have l1 : upd H l (bagL x1 y1) l = some (bagL x1 y1) := upd_same
    generalize upd H l (bagL x1 y1) = H1 at e1 l1
    refine ⟨_, rfl, l, x1, y1, rfl, l1, ok1, fun a2 H2 p2 x2 y2 e2 l2 ok2 pa2 po2 _ => ?_⟩
    refine ⟨_, rfl, _, rfl, _, rfl, l, x2, y2, rfl, l2, ok2, fun a3 H3 p3 x3 y3 e3 l3 ok3 pa3 po3 _ => ?_⟩
    intro z dz hz hdz ne
    have pa2' := pa2.ex l2 e3
    have sN : Same H3 (upd (upd H3 dz (.own z)) z (.ins (He.ga K "Setting") dz [])) := same_new (same_new (Same.refl _) hdz) (by rw [upd_ne (Ne.symm ne)]; exact hz)
    refine ⟨[.ref z, .int (1 + v)], [.ref a2, .ref a3], rfl, rfl, (by show 2 ≤ sizeLine; decide), fun p hp => ?_⟩
    have sP := same_new sN hp (o := .tup [V.ref a2, V.ref a3])
    refine ⟨z, dz, p, ⟨1 + v, p2, p3⟩, [a2, a3], rfl, upd_new hp upd_same, upd_same, by simp only; omega, (Int.le_trans (show 1 + v ≤ 5 by omega) (by decide)), .inl ⟨a2, a3, rfl, pa2'.mono sP, pa3.mono sP⟩, fun H4 keep sA => ⟨rfl, ?_⟩⟩
    have e4 : Ex l H3 H4 := fun b o nb hb => keep b o (sP _ _ hb) (fun zz => by rw [zz, hz] at hb; cases hb)
    have l4 : H4 l = some (bagL x3 y3) := keep _ _ (sP _ _ l3) (fun zz => by rw [zz, hz] at l3; cases l3)
    exact q z H4 ⟨1 + v, p2, p3⟩ x3 y3 (e1.trans (e2.trans (e3.trans e4))) l4 ok3 sA ⟨by simp only; omega, Int.le_trans (show 1 + v ≤ 5 by omega) (by decide), fun e => by cases e; exact po2; exact po3⟩ (by simp only; omega)
end
end Lw

namespace Lw
open PySem PySem.Spec PyProof.Rows L2
open LW (Hold Mode Pol Cfg Write Side Scene Parts Way Rule fut)
section
variable {P : Program} {w : World} {K : PySem.W.Frag} {mg : Str → Option Value} {base : Heap} {l : Addr} {H H' H'' : Hp}
/-- the writes that the law draws -/
structure Drawn (sz : Int) (ws : List Write) : Prop where
  n : ws.length ≤ 5
  len : ∀ wr ∈ ws, 1 ≤ wr.len ∧ wr.len < 4 * sz
theorem Drawn.fit {cfg : Cfg} {ws : List Write} (h : Drawn cfg.size ws) (c : CfgOk cfg) (s5 : cfg.size ≤ 5) : Fit cfg ws := ⟨c, s5, h.n, fun wr hw => by have := h.len wr hw; omega⟩
theorem fut_len {sz : Int} (hz : 1 ≤ sz) : ∀ {ws : List Write}, (∀ wr ∈ ws, 1 ≤ wr.len ∧ wr.len < 4 * sz) → fut sz ws ≤ 4 * ws.length
  | [], _ => Int.le_refl _
  | wr :: ws, h => by
    have a := h wr List.mem_cons_self
    have b := fut_len hz (ws := ws) fun x hx => h x (List.mem_cons_of_mem _ hx)
    have c : wr.len / sz < 4 := Int.ediv_lt_of_lt_mul (by omega) a.2
    show (wr.len / sz + 1) + fut sz ws ≤ 4 * ((ws.length + 1 : Nat) : Int)
    omega
theorem Drawn.fut {sz : Int} {ws : List Write} (h : Drawn sz ws) (hz : 1 ≤ sz) : fut sz ws ≤ 20 := by
  have := fut_len hz h.len
  have := h.n
  omega
theorem at_mode {v : Int} (h0 : 0 ≤ v) (h1 : v < 5) : ∃ m : Mode, atI [V.str "plain", .str "plain", .str "plain", .str "push", .str "more"] v = some (.str (mV m)) := by
  have : v = 0 ∨ v = 1 ∨ v = 2 ∨ v = 3 ∨ v = 4 := by omega
  rcases this with rfl | rfl | rfl | rfl | rfl
  · exact ⟨.plain, atI_nat (j := 0) rfl⟩
  · exact ⟨.plain, atI_nat (j := 1) rfl⟩
  · exact ⟨.plain, atI_nat (j := 2) rfl⟩
  · exact ⟨.push, atI_nat (j := 3) rfl⟩
  · exact ⟨.more, atI_nat (j := 4) rfl⟩
theorem ev_of {v : Int} (h0 : 0 ≤ v) (h1 : v < 2) : ∃ e : Bool, v = eV e := by
  have : v = 0 ∨ v = 1 := by omega
  rcases this with rfl | rfl
  · exact ⟨false, rfl⟩
  · exact ⟨true, rfl⟩
/-- the loop's state -/
def WSt (H : Hp) (l lf : Addr) (sz n : Int) (i : Nat) (u : Option V → Option V → Prop) (σ : L2.St) (H' : Hp) : Prop := ∃ (e : Bool) (x y : Int) (ts : List Addr) (ws : List Write) (u6 u7 : Option V),
  σ = [some (.ref l), some (.int sz), some (.int 5), some (.ref lf), some (.int (eV e)), some (.int n), u6, u7] ∧ Ex l H H' ∧ H' l = some (bagL x y) ∧ BagOk x y ∧ H' lf = some (.lst (ts.map V.ref)) ∧ All2 (WrAt H') ts ws ∧ ws.length = i ∧ (∀ wr ∈ ws, 1 ≤ wr.len ∧ wr.len < 4 * sz) ∧ u u6 u7
def spWords : Sp := fun vs H Q _ => ∃ (l : Addr) (sz x y : Int), vs = [.ref l, .int sz, .int 5] ∧ H l = some (bagL x y) ∧ BagOk x y ∧ 1 ≤ sz ∧ sz ≤ 5 ∧
  ∀ a H' ws x' y', Ex l H H' → H' l = some (bagL x' y') → BagOk x' y' → ConvAt H' a ws → Drawn sz ws → Q (.ref a) H'
theorem c_law_words (T : Txt K mg) : Con P w K mg base 2 (He.ga K "_law_words") ["_law_bag_here", "_law_size", "_law_limit"] [] spWords := by
  refine con_of T.d_law_words rfl rfl sc_law_words (fun _ _ _ _ _ _ us hl => match us, hl with | [_, _, _], _ => rfl) (fun vs H Q E h => ?_) (fun cdv A outer s H vs Q E hr h => ?_)
  · obtain ⟨l, sz, x, y, rfl, _⟩ := h
    rfl
  · obtain ⟨l, sz, x, y, rfl, hl, ok, z1, z5, q⟩ := h
    have nd := sc_law_words.nd
    have ct := c_law_take (P := P) (w := w) (base := base) T
    refine ⟨_, pss_cons (ps_par (i := 3) (j := 4) rfl nd rfl rfl (by decide) rfl rfl (pa_cons (pe_lst pa_nil) (pa_cons (call_c ct hr T.g__law_take (pa_cons (pv 0) (pa_cons pe_int pa_nil))) pa_nil)) rfl)
      (pss_cons (ss 5 nd (pe_ix ix_tup (pe_tup (pa_cons (pv 2) (pa_cons (pe_op op_add (pe_op op_fdivN (pv 2) pe_int) pe_int) (pa_cons (call_c ct hr T.g__law_take (pa_cons (pv 0) (pa_cons (pe_op op_add (pv 2) pe_int) pa_nil))) pa_nil)))) (call_c ct hr T.g__law_take (pa_cons (pv 0) (pa_cons pe_int pa_nil))) (fun _ _ => rfl)))
      (pss_cons (ps_for PassesOwn.never rfl (pi_range1 rfl T.f_range (pa_cons (pv 5) pa_nil)) (gn 6 nd)
        (C8.pss_cut (ps_if (pt_cmpR op_eq (call_c ct hr T.g__law_take (pa_cons (pv 0) (pa_cons pe_int pa_nil))) pe_int (nomark _)) (pss_one (ss 4 nd (pe_op op_sub pe_int (pv 4)))) pss_nil)
        (C8.pss_cut (ss 7 nd (pe_op op_add (pe_op op_mul (pe_ix ix_tup (pe_tup (pa_cons pe_int (pa_cons pe_int (pa_cons pe_int (pa_cons pe_int (pa_cons pe_int (pa_cons pe_int pa_nil))))))) (call_c ct hr T.g__law_take (pa_cons (pv 0) (pa_cons pe_int pa_nil))) (fun _ _ => rfl)) (pv 1)) (call_c ct hr T.g__law_take (pa_cons (pv 0) (pa_cons (pv 1) pa_nil)))))
        (pss_one (ps_expr (pe_bm PySem.F.plainAttrs_list PySem.F.slot_list_append PySem.F.type_list_append mt_append (pv 3) (pa_cons (pe_tup (pa_cons (pv 4) (pa_cons (bi (call_max2 rfl) T.f_max (pa_cons pe_int (pa_cons (pv 7) pa_nil)))
          (pa_cons (pe_ix ix_tup (pe_tup (pa_cons pe_str (pa_cons pe_str (pa_cons pe_str (pa_cons pe_str (pa_cons pe_str pa_nil)))))) (call_c ct hr T.g__law_take (pa_cons (pv 0) (pa_cons pe_int pa_nil))) (fun _ _ => rfl)) pa_nil)))) pa_nil)))))))
      (pss_one (ps_ret (pv 3))))), ?_⟩
    -- found, who
    refine ⟨(by show 0 ≤ sizeLine; decide), fun lf hlf => ?_⟩
    have hl1 := upd_new (o := .lst []) hlf hl
    refine ⟨_, rfl, l, 2, x, y, rfl, hl1, ok, by decide, by decide, fun v1 x1 y1 v10 v11 ok1 => ?_⟩
    obtain ⟨e1, rfl⟩ := ev_of v10 v11
    have nf : lf ≠ l := fun z => by rw [z, hl] at hlf; cases hlf
    have ex1 : Ex l H (upd (upd H lf (.lst [])) l (bagL x1 y1)) := (Ex.new hlf).trans Ex.put
    have f1 : upd (upd H lf (.lst [])) l (bagL x1 y1) lf = some (.lst []) := by rw [upd_ne nf, upd_same]
    have l1 : upd (upd H lf (.lst [])) l (bagL x1 y1) l = some (bagL x1 y1) := upd_same
    refine ⟨_, _, rfl, ?_⟩
    generalize upd (upd H lf (.lst [])) l (bagL x1 y1) = H1 at ex1 f1 l1
    -- count
    refine ⟨_, rfl, _, rfl, _, _, rfl, rfl, ⟨by decide, by decide⟩, _, _, rfl, rfl, _, rfl, _, rfl, _, _, rfl, rfl, l, 6, x1, y1, rfl, l1, ok1, by decide, by decide, fun v2 x2 y2 v20 v21 ok2 => ?_⟩
    have ex2 : Ex l H1 (upd H1 l (bagL x2 y2)) := Ex.put
    have f2 : upd H1 l (bagL x2 y2) lf = some (.lst []) := by rw [upd_ne nf]; exact f1
    have l2 : upd H1 l (bagL x2 y2) l = some (bagL x2 y2) := upd_same
    generalize upd H1 l (bagL x2 y2) = H2 at ex2 f2 l2
    refine ⟨(by show 3 ≤ sizeLine; decide), fun t3 ht3 => ?_⟩
    have l2' := upd_new (o := .tup [V.int 5, .int ((5 : Int).fdiv 2 + 1), .int v2]) ht3 l2
    refine ⟨_, rfl, l, 3, x2, y2, rfl, l2', ok2, by decide, by decide, fun v3 x3 y3 v30 v31 ok3 => ?_⟩
    have nt3 : t3 ≠ l := fun z => by rw [z, l2] at ht3; cases ht3
    have ex3 : Ex l H2 (upd (upd H2 t3 (.tup [V.int 5, .int ((5 : Int).fdiv 2 + 1), .int v2])) l (bagL x3 y3)) := (Ex.new ht3).trans Ex.put
    have f3 := ex3 _ _ nf f2
    have tt3 : upd (upd H2 t3 (.tup [V.int 5, .int ((5 : Int).fdiv 2 + 1), .int v2])) l (bagL x3 y3) t3 = some (.tup ([5, (5 : Int).fdiv 2 + 1, v2].map V.int)) := by rw [upd_ne nt3]; exact upd_same
    have l3 : upd (upd H2 t3 (.tup [V.int 5, .int ((5 : Int).fdiv 2 + 1), .int v2])) l (bagL x3 y3) l = some (bagL x3 y3) := upd_same
    obtain ⟨n, mn, an⟩ := at_in (xs := [5, (5 : Int).fdiv 2 + 1, v2]) v30 v31
    have hn : 0 ≤ n ∧ n ≤ 5 := by
      have e : (5 : Int).fdiv 2 + 1 = 3 := by decide
      rw [e] at mn
      simp only [List.mem_cons, List.not_mem_nil, or_false] at mn
      omega
    refine ⟨t3, _, _, _, rfl, rfl, SqT.of tt3, an, ?_⟩
    have ex03 := ex1.trans (ex2.trans ex3)
    generalize upd (upd H2 t3 (.tup [V.int 5, .int ((5 : Int).fdiv 2 + 1), .int v2])) l (bagL x3 y3) = H3 at ex03 f3 l3
    clear ex1 ex2 ex3 f1 f2 l1 l2 l2' tt3
    -- the loop
    have HlF : ∀ b o, H b = some o → b ≠ lf := fun b o h z => by rw [z, hlf] at h; cases h
    refine ⟨_, rfl, n, rfl, by omega, by omega, for_range (n := n.toNat) (fun i => WSt H l lf sz n i (fun _ _ => True)) ⟨e1, x3, y3, [], [], none, none, rfl, ex03, l3, ok3, f3, All2.nil, rfl, fun _ h => (nomatch h), trivial⟩ ?_ ?_⟩
    · rintro i σ H4 hi ⟨e, x4, y4, ts, ws, u6, u7, rfl, ex4, l4, ok4, f4, A4, n4, d4, _⟩
      refine ⟨WSt H l lf sz n i (fun u6 _ => u6 = some (.int (0 + (i : Nat)))), ?_, ?_⟩
      · refine ⟨_, rfl, l, 3, x4, y4, rfl, l4, ok4, by decide, by decide, fun v5 x5 y5 v50 v51 ok5 => ?_⟩
        have ex5 : Ex l H4 (upd H4 l (bagL x5 y5)) := Ex.put
        have A5 : All2 (WrAt (upd H4 l (bagL x5 y5))) ts ws := A4.mono fun t wr h => ex5 _ _ (ne_of h l4 (by intro z; cases z)) h
        refine ⟨rfl, _, rfl, ?_⟩
        by_cases h5 : v5 = 0
        · subst h5
          refine iteT ⟨_, rfl, _, _, rfl, rfl, ?_⟩
          exact ⟨!e, x5, y5, ts, ws, _, _, by rw [eV_not]; rfl, ex4.trans ex5, upd_same, ok5, ex5 _ _ nf f4, A5, n4, d4, rfl⟩
        · have : decide (V.int v5 = V.int 0) = false := decide_eq_false fun z => h5 (V.int.inj z)
          rw [this]
          exact iteF ⟨e, x5, y5, ts, ws, _, _, rfl, ex4.trans ex5, upd_same, ok5, ex5 _ _ nf f4, A5, n4, d4, rfl⟩
      · rintro σ H5 ⟨e', x5, y5, ts, ws, u6, u7, rfl, ex5, l5, ok5, f5, A5, n5, d5, rfl⟩
        refine ⟨WSt H l lf sz n i (fun u6 u7 => u6 = some (.int (0 + (i : Nat))) ∧ ∃ L : Int, u7 = some (.int L) ∧ 0 ≤ L ∧ L < 4 * sz), ?_, ?_⟩
        · refine ⟨(by show 6 ≤ sizeLine; decide), fun t6 ht6 => ?_⟩
          have l5' := upd_new (o := .tup [V.int 0, .int 0, .int 1, .int 1, .int 2, .int 3]) ht6 l5
          refine ⟨_, rfl, l, 6, x5, y5, rfl, l5', ok5, by decide, by decide, fun v6 x6 y6 v60 v61 ok6 => ?_⟩
          have nt6 : t6 ≠ l := fun z => by rw [z, l5] at ht6; cases ht6
          have ex6 : Ex l H5 (upd (upd H5 t6 (.tup [V.int 0, .int 0, .int 1, .int 1, .int 2, .int 3])) l (bagL x6 y6)) := (Ex.new ht6).trans Ex.put
          have tt6 : upd (upd H5 t6 (.tup [V.int 0, .int 0, .int 1, .int 1, .int 2, .int 3])) l (bagL x6 y6) t6 = some (.tup ([0, 0, 1, 1, 2, 3].map V.int)) := by rw [upd_ne nt6]; exact upd_same
          have l6 : upd (upd H5 t6 (.tup [V.int 0, .int 0, .int 1, .int 1, .int 2, .int 3])) l (bagL x6 y6) l = some (bagL x6 y6) := upd_same
          obtain ⟨j, mj, aj⟩ := at_in (xs := [0, 0, 1, 1, 2, 3]) v60 v61
          generalize upd (upd H5 t6 (.tup [V.int 0, .int 0, .int 1, .int 1, .int 2, .int 3])) l (bagL x6 y6) = H6 at ex6 tt6 l6
          have hj : 0 ≤ j ∧ j ≤ 3 := by
            simp only [List.mem_cons, List.not_mem_nil, or_false] at mj
            omega
          refine ⟨t6, _, _, _, rfl, rfl, SqT.of tt6, aj, _, rfl, _, _, rfl, rfl, .inl ⟨by omega, by omega⟩, _, rfl, _, rfl, l, sz, x6, y6, rfl, l6, ok6, by omega, by omega, fun v7 x7 y7 v70 v71 ok7 => ?_⟩
          have ex7 : Ex l H5 (upd H6 l (bagL x7 y7)) := ex6.trans Ex.put
          have A7 : All2 (WrAt (upd H6 l (bagL x7 y7))) ts ws := A5.mono fun t wr h => ex7 _ _ (ne_of h l5 (by intro z; cases z)) h
          have jz : 0 ≤ j * sz ∧ j * sz ≤ 3 * sz := ⟨Int.mul_nonneg hj.1 (by omega), Int.mul_le_mul_of_nonneg_right hj.2 (by omega)⟩
          exact ⟨_, _, rfl, rfl, e', x7, y7, ts, ws, _, _, rfl, ex5.trans ex7, upd_same, ok7, ex7 _ _ nf f5, A7, n5, d5, rfl, _, rfl, by omega, by omega⟩
        · rintro σ H6 ⟨e6, x6, y6, ts, ws, u6, u7, rfl, ex6, l6, ok6, f6, A6, n6, d6, rfl, L, rfl, L0, L1⟩
          refine ⟨_, rfl, .inl ⟨rfl, _, SqL.of f6⟩, _, rfl, _, rfl, _, _, rfl, (by show 5 ≤ sizeLine; decide), fun t7 ht7 => ?_⟩
          have l6' := upd_new (o := .tup [V.str "plain", .str "plain", .str "plain", .str "push", .str "more"]) ht7 l6
          refine ⟨_, rfl, l, 5, x6, y6, rfl, l6', ok6, by decide, by decide, fun v8 x8 y8 v80 v81 ok8 => ?_⟩
          have nt7 : t7 ≠ l := fun z => by rw [z, l6] at ht7; cases ht7
          have ex8 : Ex l H6 (upd (upd H6 t7 (.tup [V.str "plain", .str "plain", .str "plain", .str "push", .str "more"])) l (bagL x8 y8)) := (Ex.new ht7).trans Ex.put
          have tt8 : upd (upd H6 t7 (.tup [V.str "plain", .str "plain", .str "plain", .str "push", .str "more"])) l (bagL x8 y8) t7 = some (.tup [V.str "plain", .str "plain", .str "plain", .str "push", .str "more"]) := by rw [upd_ne nt7]; exact upd_same
          have l8 : upd (upd H6 t7 (.tup [V.str "plain", .str "plain", .str "plain", .str "push", .str "more"])) l (bagL x8 y8) l = some (bagL x8 y8) := upd_same
          have A8 : All2 (WrAt (upd (upd H6 t7 (.tup [V.str "plain", .str "plain", .str "plain", .str "push", .str "more"])) l (bagL x8 y8))) ts ws := A6.mono fun t wr h => ex8 _ _ (ne_of h l6 (by intro z; cases z)) h
          have f8 := ex8 _ _ nf f6
          obtain ⟨m, am⟩ := at_mode v80 v81
          generalize upd (upd H6 t7 (.tup [V.str "plain", .str "plain", .str "plain", .str "push", .str "more"])) l (bagL x8 y8) = H8 at ex8 tt8 l8 A8 f8
          refine ⟨t7, _, _, _, rfl, rfl, SqT.of tt8, am, (by show 3 ≤ sizeLine; decide), fun t9 ht9 => ?_⟩
          have hL : 1 ≤ (if L > 1 then L else 1) ∧ (if L > 1 then L else 1) < 4 * sz := by
            split <;> omega
          have f9 := upd_new (o := .tup [V.int (eV e6), .int (if L > 1 then L else 1), .str (mV m)]) ht9 f8
          have nl9 : t9 ≠ lf := fun z => by rw [z, f8] at ht9; cases ht9
          have len9 : (ts.map V.ref).length < sizeLine := by
            rw [List.length_map, A8.len, n6]
            exact small1000 (by omega)
          refine ⟨lf, _, _, rfl, rfl, f9, len9, ?_⟩
          have keep : ∀ b o, b ≠ lf → H8 b = some o → upd (upd H8 t9 (.tup [V.int (eV e6), .int (if L > 1 then L else 1), .str (mV m)])) lf (.lst (ts.map V.ref ++ [.ref t9])) b = some o := fun b o nb h => by
            rw [upd_ne nb]
            exact upd_new ht9 h
          have A9 : All2 (WrAt (upd (upd H8 t9 (.tup [V.int (eV e6), .int (if L > 1 then L else 1), .str (mV m)])) lf (.lst (ts.map V.ref ++ [.ref t9])))) (ts ++ [t9]) (ws ++ [⟨e6, if L > 1 then L else 1, m⟩]) := by
            refine All2.snoc (A8.mono fun t wr h => keep _ _ (ne_of h f8 (by intro z; cases z)) h) ?_
            show upd _ _ _ t9 = _
            rw [upd_ne nl9, upd_same]
          refine ⟨e6, x8, y8, ts ++ [t9], ws ++ [⟨e6, if L > 1 then L else 1, m⟩], _, _, rfl, fun b o nb h => keep b o (HlF b o h) (ex8 b o nb (ex6 b o nb h)), ?_, ok8, ?_, A9, ?_, ?_, trivial⟩
          · exact keep _ _ nf.symm l8
          · rw [upd_same, List.map_append]
            rfl
          · rw [List.length_append, n6]
            rfl
          · intro wr hw
            rcases List.mem_append.mp hw with hw | hw
            · exact d6 wr hw
            · rw [List.mem_singleton.mp hw]
              exact hL
    · rintro σ H4 ⟨e, x4, y4, ts, ws, u6, u7, rfl, ex4, l4, ok4, f4, A4, n4, d4, _⟩
      exact ⟨_, rfl, q lf H4 ws x4 y4 ex4 l4 ok4 ⟨ts, f4, A4⟩ ⟨by omega, d4⟩⟩
end
end Lw

namespace Lw
open PySem PySem.Spec PyProof.Rows L2
open LW (Hold Mode Pol Cfg Write Side Scene Parts Way Rule listsN bndN epAt)
/-- an expression's value, said between -/
def tMid (te : TE) : TE := fun σ H Q => ∃ Mid : V → Hp → Prop, te σ H Mid ∧ ∀ v H', Mid v H' → Q v H'
theorem pe_mid {X : Cx} {e : Expr} {te : TE} (h : PE X e te) : PE X e (tMid te) := ⟨fun pins s σ H Q I ⟨_, hm, hq⟩ => thn (h.run pins s σ H _ I hm) fun _ _ ⟨v, H', I', r, q⟩ => ⟨v, H', I', r, hq v H' q⟩⟩
def LiAt (H : Hp) (c : Addr) (ks : List Int) : Prop := H c = some (.lst (ks.map V.int))
/-- a list of lists of numbers -/
def ListsAt (H : Hp) (a : Addr) (kss : List (List Int)) : Prop := ∃ as : List Addr, H a = some (.lst (as.map V.ref)) ∧ All2 (LiAt H) as kss
section
variable {P : Program} {w : World} {K : PySem.W.Frag} {mg : Str → Option Value} {base : Heap} {H H' B : Hp}
theorem ListsAt.mono {a : Addr} {kss : List (List Int)} (h : ListsAt H a kss) (s : Same H H') : ListsAt H' a kss := by
  obtain ⟨as, h1, h2⟩ := h
  exact ⟨as, s _ _ h1, h2.mono fun _ _ q => s _ _ q⟩
theorem same_both {p : Addr} {o : HO} (s : Same B H) : Same (upd B p o) (upd H p o) := fun b u e => by
  by_cases c : b = p
  · subst c
    rw [upd_same] at e ⊢
    exact e
  · rw [upd_ne c] at e ⊢
    exact s _ _ e
/-- what is laid on top of each list -/
def more (b : Nat) (ks : List Int) : List (List Int) := (List.range b).map fun (c : Nat) => ks ++ [(c : Int)]
theorem listsN_succ (ws : List Write) (n : Nat) : listsN ws (n + 1) = (listsN ws n).flatMap (more (bndN ws n)) := rfl
theorem bnd_le (ws : List Write) (n : Nat) : bndN ws n ≤ 3 := by
  unfold bndN
  split <;> decide
theorem lists_len (ws : List Write) : ∀ n, (listsN ws n).length ≤ 3 ^ n
  | 0 => Nat.le_refl _
  | n + 1 => by
    rw [listsN_succ, LW.flat_len (c := bndN ws n) fun a _ => by unfold more; rw [List.length_map, List.length_range], Nat.pow_succ]
    exact Nat.mul_le_mul (lists_len ws n) (bnd_le ws n)
theorem lists_len5 {ws : List Write} {n : Nat} (h : n ≤ 5) : (listsN ws n).length ≤ 243 := Nat.le_trans (lists_len ws n) (Nat.le_trans (Nat.pow_le_pow_right (by decide) h) (by decide))
theorem mem_len {ws : List Write} {n : Nat} {ks : List Int} (h : ks ∈ listsN ws n) : ks.length = n := ((LW.mem_listsN n ks).mp h).1
def spLists : Sp := fun vs H Q _ => ∃ (wa : Addr) (ws : List Write), vs = [.ref wa] ∧ ConvAt H wa ws ∧ ws.length ≤ 5 ∧ ∀ a H', Same H H' → ListsAt H' a (listsN ws ws.length) → Q (.ref a) H'
theorem c_law_lists (T : Txt K mg) : Con P w K mg base 1 (He.ga K "_law_lists") ["_law_words_here"] [] spLists := by
  refine con_of T.d_law_lists rfl rfl sc_law_lists (fun _ _ _ _ _ _ us hl => match us, hl with | [_], _ => rfl) (fun vs H Q E h => ?_) (fun cdv A outer s H vs Q E hr h => ?_)
  · obtain ⟨wa, ws, rfl, _⟩ := h
    rfl
  · obtain ⟨wa, ws, rfl, hW, n5, q⟩ := h
    have nd := sc_law_lists.nd
    refine ⟨_, pss_cons (ss 1 nd (pe_lst (pa_cons (pe_lst pa_nil) pa_nil)))
      (pss_cons (ps_for PassesOwn.never rfl (pi_range1 rfl T.f_range (pa_cons (bi call_len_seq T.f_len (pa_cons (pv 0) pa_nil)) pa_nil)) (gn 2 nd)
        (pss_cons (ss 3 nd (pe_lst pa_nil))
        (pss_cons (ps_for PassesOwn.never rfl (pi_list (pv 1)) (gn 4 nd)
          (pss_one (ps_expr (pe_bm PySem.F.plainAttrs_list PySem.F.slot_list_extend PySem.F.type_list_extend mt_extend (pv 3)
            (pa_cons (pe_lc (own := [("_law_count", 5)]) (g := gName 5) (tt := tYes) (te := tOp rCat (tVar 4) (tLst (tCons (tVar 5) tNil))) rfl nd
              (pi_range1 rfl T.f_range (pa_cons (pe_mid (pe_ifExp (PW.pt (pw_or (pt_cmpR op_eq (pv 2) pe_int (nomark _)) (pw_or1 (pt_cmpR op_ne (pe_ix ix_tup (pe_ix ix_list (pv 0) (pe_op op_sub (pv 2) pe_int) (fun _ _ => rfl)) pe_int (fun _ _ => rfl)) (pe_ix ix_tup (pe_ix ix_list (pv 0) (pv 2) (fun _ _ => rfl)) pe_int (fun _ _ => rfl)) (nomark _))))) pe_int pe_int)) pa_nil))
              (blkOk_by (N := N_law_lists) (sc := defScope st_law_lists) (by decide +kernel))
              (fun _ _ _ _ _ => gn 5 nd) (fun _ _ _ _ _ => pts_nil) (fun _ _ _ _ _ => pe_op op_cat (pv 4) (pe_lst (pa_cons (pv 5) pa_nil)))) pa_nil)))))
        (pss_one (ss 1 nd (pv 3))))))
      (pss_one (ps_ret (pv 1)))), ?_⟩
    obtain ⟨cs, hcs, hcW⟩ := id hW
    -- [[]]
    refine ⟨(by show 0 ≤ sizeLine; decide), fun z0 hz0 => ?_⟩
    have s1 := same_new (Same.refl H) hz0 (o := .lst [])
    have e1 : upd H z0 (.lst []) z0 = some (.lst []) := upd_same
    generalize upd H z0 (.lst []) = H1 at s1 e1
    refine ⟨(by show 1 ≤ sizeLine; decide), fun f0 hf0 => ?_⟩
    have s2 := same_new s1 hf0 (o := .lst [V.ref z0])
    have e2 : ListsAt (upd H1 f0 (.lst [V.ref z0])) f0 (listsN ws 0) := ⟨[z0], upd_same, All2.one (upd_new hf0 e1)⟩
    generalize upd H1 f0 (.lst [V.ref z0]) = H2 at s2 e2
    refine ⟨_, rfl, wa, _, rfl, .inl (SqL.of (s2 _ _ hcs)), _, rfl, by omega, by rw [List.length_map, hcW.len]; omega, for_range (fun k σ H' => ∃ (f : Addr) (u2 u3 u4 : Option V), σ = [some (.ref wa), some (.ref f), u2, u3, u4, none] ∧ Same H H' ∧ ListsAt H' f (listsN ws k)) ⟨f0, none, none, none, rfl, s2, e2⟩ ?_ ?_⟩
    · rintro k σ H4 hk ⟨f, u2, u3, u4, rfl, s4, as, hf, hA⟩
      refine ⟨(by show 0 ≤ sizeLine; decide), fun g hg => ?_⟩
      have hk : k < ws.length := by
        rw [List.length_map, hcW.len] at hk
        omega
      have ew : ws[k]? = some ws[k] := List.getElem?_eq_getElem hk
      generalize ws[k] = wr at ew
      obtain ⟨ca, eca, hwr⟩ := hcW.get ew
      refine ⟨_, rfl, f, rfl, ⟨_, SqL.of (upd_new hg hf)⟩, for_list (K := K) (xs := as.map V.ref) (fun j σ H' => ∃ (B : Hp) (bs : List Addr) (u4 : Option V), σ = [some (.ref wa), some (.ref f), some (.int (0 + (k : Nat))), some (.ref g), u4, none] ∧ Same H4 B ∧ Same B H' ∧ B g = none ∧ H' g = some (.lst (bs.map V.ref)) ∧
        All2 (LiAt B) bs (((listsN ws k).take j).flatMap (more (bndN ws k)))) ⟨H4, [], u4, rfl, Same.refl _, same_new (Same.refl _) hg, hg, upd_same, All2.nil⟩ ?_ ?_ ?_⟩
      · rintro j σ H' _ ⟨B, bs, u4, rfl, h1, h2, _⟩
        exact SqL.of (h2 _ _ (h1 _ _ hf))
      · rintro j y σ H6 hj ⟨B, bs, u4, rfl, sB, sB6, Bg, h6, A6⟩
        obtain ⟨c, ec, rfl⟩ := ref_at hj
        obtain ⟨ks, eks, hc⟩ := hA.get' ec
        have hc6 : H6 c = some (.lst (ks.map V.int)) := sB6 _ _ (sB _ _ hc)
        have s06 := s4.trans (sB.trans sB6)
        have hks := mem_len (List.mem_of_getElem? eks)
        refine ⟨_, rfl, .inl ⟨rfl, _, SqL.of h6⟩, ?_⟩
        refine ⟨fun v H' => v = .int (bndN ws k : Nat) ∧ H6 = H', ?_, ?_⟩
        · refine ⟨_, rfl, rfl, _, rfl, ?_⟩
          rw [Int.zero_add]
          by_cases k0 : k = 0
          · subst k0
            refine iteT ⟨?_, rfl⟩
            have : bndN ws 0 = 1 := by
              unfold bndN
              rw [if_neg (fun z => absurd z.1 (by decide))]
            rw [this]
            rfl
          · have n0 : decide (V.int ((k : Nat) : Int) = V.int 0) = false := decide_eq_false fun z => k0 (by have := V.int.inj z; omega)
            rw [n0]
            have ew0 : ws[k - 1]? = some ws[k - 1] := List.getElem?_eq_getElem (by omega)
            generalize ws[k - 1] = wr0 at ew0
            obtain ⟨ca0, eca0, hwr0⟩ := hcW.get ew0
            have hwr0 : H ca0 = some (.tup [.int (eV wr0.ep), .int wr0.len, .str (mV wr0.mode)]) := hwr0
            have hwr1 : H ca = some (.tup [.int (eV wr.ep), .int wr.len, .str (mV wr.mode)]) := hwr
            have eb : bndN ws k = if wr0.ep = wr.ep then 3 else 1 := by
              unfold bndN epAt
              rw [ew0, ew]
              by_cases c : wr0.ep = wr.ep
              · rw [if_pos ⟨by omega, by rw [Option.map_some, Option.map_some, c]⟩, if_pos c]
              · rw [if_neg (fun z => c (Option.some.inj z.2)), if_neg c]
            refine iteF ⟨_, rfl, _, rfl, _, _, rfl, rfl, wa, _, _, _, rfl, rfl, SqL.of (s06 _ _ hcs), ?_, ca0, _, 0, _, rfl, rfl, SqT.of (s06 _ _ hwr0), atI_nat (j := 0) rfl, _, rfl, _, rfl, wa, _, _, _, rfl, rfl, SqL.of (s06 _ _ hcs), ?_, ca, _, 0, _, rfl, rfl, SqT.of (s06 _ _ hwr1), atI_nat (j := 0) rfl, rfl, _, rfl, ?_⟩
            · have : ((k : Nat) : Int) - 1 = ((k - 1 : Nat) : Int) := by omega
              show atI _ (((k : Nat) : Int) - 1) = _
              rw [this]
              exact atI_nat (by rw [List.getElem?_map, eca0]; rfl)
            · exact atI_nat (by rw [List.getElem?_map, eca]; rfl)
            · by_cases c : wr0.ep = wr.ep
              · rw [c]
                have : (!decide (V.int (eV wr.ep) = V.int (eV wr.ep))) = false := by simp
                rw [this, eb, if_pos c]
                exact iteF ⟨rfl, rfl⟩
              · have : (!decide (V.int (eV wr0.ep) = V.int (eV wr.ep))) = true := by
                  rw [decide_eq_false (fun z => c (eV_inj (V.int.inj z)))]
                  rfl
                rw [this, eb, if_neg c]
                exact iteT ⟨rfl, rfl⟩
        · rintro _ _ ⟨rfl, rfl⟩
          have b3 := bnd_le ws k
          refine ⟨_, rfl, by omega, by omega, fun D hD => ?_⟩
          refine lc_range (lo := 0) (n := bndN ws k) (fun i H' => ∃ (B' : Hp) (ds : List Addr), Same H6 B' ∧ Same B' H' ∧ B' D = none ∧ H' D = some (.lst (ds.map V.ref)) ∧ All2 (fun d z => LiAt B' d z ∧ H6 d = none) ds (more i ks)) ⟨H6, [], Same.refl _, same_new (Same.refl _) hD, hD, upd_same, All2.nil⟩ ?_ ?_
          · rintro i H7 hi ⟨B7, ds, s67, sB7, B7D, h7, A7⟩
            refine ⟨rfl, ?_⟩
            refine iteT (B := False) ?_
            have hc7 := sB7 _ _ (s67 _ _ hc6)
            refine ⟨_, rfl, _, rfl, (by show 1 ≤ sizeLine; decide), fun t ht => ?_⟩
            refine ⟨c, t, _, _, rfl, rfl, upd_new ht hc7, upd_same, ?_, fun p hp => ?_⟩
            · rw [List.length_map, hks]
              exact Nat.le_of_lt (small1000 (by simp; omega))
            obtain ⟨hp, npt⟩ := none_upd hp
            have nDp : D ≠ p := fun z => by rw [← z, h7] at hp; cases hp
            have nDt : D ≠ t := fun z => by rw [← z, h7] at ht; cases ht
            have hp' : upd H7 t (.lst [V.int (0 + (i : Nat))]) p = none := by rw [upd_ne npt]; exact hp
            have h8 : upd (upd H7 t (.lst [V.int (0 + (i : Nat))])) p (.lst (ks.map V.int ++ [V.int (0 + (i : Nat))])) D = some (.lst (ds.map V.ref)) := by
              rw [upd_ne nDp, upd_ne nDt]
              exact h7
            refine ⟨_, h8, ?_, upd (upd B7 t (.lst [V.int (0 + (i : Nat))])) p (.lst (ks.map V.int ++ [V.int (0 + (i : Nat))])), ds ++ [p], ?_, ?_, ?_, ?_, ?_⟩
            · rw [List.length_map, A7.len]
              unfold more
              rw [List.length_map, List.length_range]
              exact small1000 (by omega)
            · exact same_new (same_new s67 (sB7.free ht)) (by rw [upd_ne npt]; exact sB7.free hp)
            · exact same_put (same_both (same_both sB7)) (by rw [upd_ne nDp, upd_ne nDt]; exact B7D)
            · rw [upd_ne nDp, upd_ne nDt]
              exact B7D
            · rw [upd_same, List.map_append]
              rfl
            · have em : more (i + 1) ks = more i ks ++ [ks ++ [((i : Nat) : Int)]] := by
                unfold more
                rw [List.range_succ, List.map_append]
                rfl
              rw [em]
              refine All2.snoc (A7.mono fun d z h => ⟨?_, h.2⟩) ⟨?_, s67.free (sB7.free hp)⟩
              · have h1 : B7 d = some (.lst (z.map V.int)) := h.1
                exact upd_new (by rw [upd_ne npt]; exact sB7.free hp) (upd_new (sB7.free ht) h1)
              · show upd _ _ _ p = _
                rw [upd_same, List.map_append, Int.zero_add]
                rfl
          · rintro H7 ⟨B7, ds, s67, sB7, B7D, h7, A7⟩
            have h67 := s67.trans sB7
            have g7 := h67 _ _ h6
            have sc : Same B (cutH H7 g) := fun b o hb => cutH_of ((sB6.trans h67) b o hb) (fun z => by rw [z, Bg] at hb; cases hb)
            refine ⟨g, D, _, _, rfl, rfl, g7, h7, ?_, ?_⟩
            · have l1 : bs.length ≤ 729 := by
                rw [A6.len, LW.flat_len (c := bndN ws k) fun a _ => by unfold more; rw [List.length_map, List.length_range]]
                have h1 : ((listsN ws k).take j).length ≤ 243 := by
                  rw [List.length_take]
                  exact Nat.le_trans (Nat.min_le_right _ _) (lists_len5 (by omega))
                exact Nat.le_trans (Nat.mul_le_mul h1 b3) (by decide)
              have l2 : ds.length = bndN ws k := by
                rw [A7.len]
                unfold more
                rw [List.length_map, List.length_range]
              rw [List.length_map, List.length_map]
              exact Nat.le_of_lt (small1000 (by omega))
            · refine ⟨cutH H7 g, bs ++ ds, _, rfl, sB.trans sc, same_put cutH_same cutH_at, cutH_at, ?_, ?_⟩
              · rw [upd_same, List.map_append]
              · have et : (listsN ws k).take (j + 1) = (listsN ws k).take j ++ [ks] := by rw [List.take_add_one, eks]; rfl
                rw [et, List.flatMap_append, List.flatMap_cons, List.flatMap_nil, List.append_nil]
                refine All2.append (A6.mono fun d z h => sc _ _ h) (A7.mono fun d z h => ?_)
                have h1 : B7 d = some (.lst (z.map V.int)) := h.1
                exact cutH_of (sB7 _ _ h1) (fun e => by have := h.2; rw [e, h6] at this; cases this)
      · rintro σ H7 ⟨B, bs, u4, rfl, sB, sB6, Bg, h6, A6⟩
        rw [List.length_map, hA.len, List.take_length, ← listsN_succ] at A6
        exact ⟨_, rfl, g, _, _, _, rfl, s4.trans (sB.trans sB6), bs, h6, A6.mono fun _ _ h => sB6 _ _ h⟩
    · rintro σ H4 ⟨f, u2, u3, u4, rfl, s4, h4⟩
      have en : (((cs.map V.ref).length : Nat) : Int).toNat = ws.length := by
        rw [List.length_map, hcW.len]
        omega
      rw [en] at h4
      exact ⟨_, rfl, q f H4 s4 h4⟩
end
end Lw

namespace Lw
open PySem PySem.Spec PyProof.Rows L2 LamX
open LW (Hold Mode Pol Cfg Write Side Scene Parts Way Rule listsN total best0 PlanP scene0 fut)
/-! ### lists of numbers as data -/
def dInts (ks : List Int) : PyData := .list (ks.map PyData.int)
def dLists (kss : List (List Int)) : PyData := .list (kss.map dInts)
theorem ints_lay : ∀ ks : List Int, PyData.canLayAll0 (ks.map PyData.int) = true
  | [] => rfl
  | k :: ks => by
    rw [List.map_cons]
    simp only [PyData.canLayAll0, PyData.canLay0, ints_lay ks, Bool.true_and]
theorem ints_depth : ∀ ks : List Int, PyData.depthAll (ks.map PyData.int) = 0
  | [] => rfl
  | k :: ks => by
    rw [List.map_cons]
    simp only [PyData.depthAll, PyData.depth, ints_depth ks]
    rfl
theorem lists_lay : ∀ kss : List (List Int), PyData.canLayAll0 (kss.map dInts) = true
  | [] => rfl
  | k :: ks => by
    rw [List.map_cons]
    simp only [PyData.canLayAll0, dInts, PyData.canLay0, ints_lay k, Bool.true_and]
    exact lists_lay ks
theorem lists_depth : ∀ kss : List (List Int), PyData.depthAll (kss.map dInts) ≤ 1
  | [] => Nat.zero_le _
  | k :: ks => by
    have := lists_depth ks
    rw [List.map_cons]
    simp only [PyData.depthAll, dInts, PyData.depth, ints_depth k] at this ⊢
    omega
theorem ints_shaped (ks : List Int) : SeqAt.shaped (dInts ks) = true := by
  unfold SeqAt.shaped dInts
  simp only [PyData.canLay0, PyData.depth, ints_lay, ints_depth]
  decide
theorem lists_shaped (kss : List (List Int)) : SeqAt.shaped (dLists kss) = true := by
  have := lists_depth kss
  unfold SeqAt.shaped dLists
  simp only [PyData.canLay0, PyData.depth, lists_lay, Bool.true_and]
  exact decide_eq_true (by omega)
section
variable {K : PySem.W.Frag} {H : Hp}
theorem dp_ints : ∀ ks : List Int, DpAll K H (ks.map V.int) (ks.map PyData.int)
  | [] => .nil
  | k :: ks => .cons (.int k) (dp_ints ks)
theorem LiAt.dp {c : Addr} {ks : List Int} (h : LiAt H c ks) : Dp K H (.ref c) (dInts ks) := .lst (SqL.of h) (dp_ints ks)
theorem dp_lists : ∀ {as : List Addr} {kss : List (List Int)}, All2 (LiAt H) as kss → DpAll K H (as.map V.ref) (kss.map dInts)
  | [], [], _ => .nil
  | [], _ :: _, h => by have := h.len; simp at this
  | _ :: _, [], h => by have := h.len; simp at this
  | a :: as, k :: ks, h => .cons (LiAt.dp h.tail.1) (dp_lists h.tail.2)
theorem ListsAt.dp {a : Addr} {kss : List (List Int)} (h : ListsAt H a kss) : Dp K H (.ref a) (dLists kss) := by
  obtain ⟨as, h1, h2⟩ := h
  exact .lst (SqL.of h1) (dp_lists h2)
theorem lists_any {ks : List Int} {kss : List (List Int)} (h : ks ∈ kss) : ((kss.map dInts).any fun z => PyData.eqv z (dInts ks)) = true := by
  rw [List.any_eq_true]
  exact ⟨_, List.mem_map.mpr ⟨ks, h, rfl⟩, SeqAt.eqv_refl _ (SeqAt.canLay_of_shaped (ints_shaped ks))⟩
end
/-! ### the fewest and the most of all lists -/
section
variable {cfg : Cfg} {ws : List Write}
theorem lists_best {sg : Int} (hsg : sg = 1 ∨ sg = -1) {m : Int} (h : m ∈ (listsN ws ws.length).map (total cfg ws)) (ha : ∀ y ∈ (listsN ws ws.length).map (total cfg ws), sg * m ≤ sg * y) : m = best0 cfg sg ws := by
  obtain ⟨ks, hk, e⟩ := List.mem_map.mp h
  have h1 : sg * best0 cfg sg ws ≤ sg * m := by
    rw [← e]
    exact LW.total_le hsg (LW.planP_iff.mpr ((LW.mem_listsN _ _).mp hk))
  obtain ⟨kb, pb, eb⟩ := LW.total_ex (cfg := cfg) (ws := ws) (sg := sg)
  have h2 : sg * m ≤ sg * best0 cfg sg ws := by
    rw [← eb]
    exact ha _ (List.mem_map.mpr ⟨kb, (LW.mem_listsN _ _).mpr (LW.planP_iff.mp pb), rfl⟩)
  exact LW.sg_inj hsg (by omega)
theorem lists_pos : 0 < ((listsN ws ws.length).map (total cfg ws)).length := by
  obtain ⟨kb, pb, _⟩ := LW.total_ex (cfg := cfg) (ws := ws) (sg := 1)
  rw [List.length_map]
  exact List.length_pos_of_mem ((LW.mem_listsN _ _).mpr (LW.planP_iff.mp pb))
end
/-! ### behind the search -/
section
variable {K : PySem.W.Frag} {B H H' : Hp} {ro r st sl dl : Addr} {cfg : Cfg} {ws : List Write} {sc : Scene} {n : Nat}
theorem RoadAt.en (D : RoadAt K B H ro r st sl dl cfg ws sc n) (e : ExtN H H') : RoadAt K (cut B) H' ro r st sl dl cfg ws sc n := by
  have D2 := D.base (cut_same B) (D.set.en (cut_en B)) (D.rules.en (cut_en B))
  obtain ⟨dx, h1⟩ := D2.ins
  obtain ⟨vs, t, h2, h3, h4⟩ := D2.scenes
  obtain ⟨ds, h5, h6⟩ := D2.deeds
  exact { D2 with same := (cut_noT B).same D2.same e, ins := ⟨dx, e _ _ h1 (fun _ z => nomatch z)⟩, scenes := ⟨vs, t, e _ _ h2 (fun _ z => nomatch z), h3.kt (KT2.en e), h4⟩, deeds := ⟨ds, e _ _ h5 (fun _ z => nomatch z), h6⟩ }
/-- what the law has made of one bag -/
structure Made (K : PySem.W.Frag) (H : Hp) (sa wa ro fl : Addr) (cfg : Cfg) (ws : List Write) : Prop where
  set : SetAt K H sa cfg
  conv : ConvAt H wa ws
  road : ∃ B r sl dl, RoadAt K B H ro r sa sl dl cfg ws scene0 0
  found : H fl = some (.lst (((listsN ws ws.length).map (total cfg ws)).map V.int))
theorem Made.mono {sa wa ro fl : Addr} (h : Made K H sa wa ro fl cfg ws) (s : Same H H') : Made K H' sa wa ro fl cfg ws := by
  obtain ⟨h1, h2, ⟨B, r, sl, dl, D⟩, h4⟩ := h
  exact ⟨h1.mono s, h2.mono s, ⟨B, r, sl, dl, D.mono s⟩, s _ _ h4⟩
theorem Made.en {sa wa ro fl : Addr} (h : Made K H sa wa ro fl cfg ws) (e : ExtN H H') : Made K H' sa wa ro fl cfg ws := by
  obtain ⟨h1, h2, ⟨B, r, sl, dl, D⟩, h4⟩ := h
  exact ⟨h1.en e, h2.en e, ⟨_, r, sl, dl, D.en e⟩, e _ _ h4 fun _ z => nomatch z⟩
end
end Lw

namespace Lw
open PySem PySem.Spec PyProof.Rows L2 LamX
open LW (Hold Mode Pol Cfg Write Side Scene Parts Way Rule listsN total best0 PlanP scene0 fut mu)
section
variable {P : Program} {w : World} {K : PySem.W.Frag} {mg : Str → Option Value} {base : Heap} {c Pt : Addr} {T : List (Addr × Str)}
theorem EB.ex {l : Addr} {H H' : Hp} (e : Ex l H H') : EB l H H' := fun b o n h _ => e b o n h
theorem _root_.Lw.SetAt.ex {l a : Addr} {H H' : Hp} {xs : List V} {cf : Cfg} (h : SetAt K H a cf) (hl : H l = some (.lst xs)) (e : Ex l H H') : SetAt K H' a cf := by
  obtain ⟨dx, t, p0, p1, h1, h2, h3, h4⟩ := h
  exact ⟨dx, t, p0, p1, e _ _ (ne_of h1 hl (by intro z; cases z)) h1, e _ _ (ne_of h2 hl (by intro z; cases z)) h2, h3.ex hl e, h4.ex hl e⟩
theorem tabs_ex {l : Addr} {H H' : Hp} {xs : List V} (t : Tabs T H) (hl : H l = some (.lst xs)) (e : Ex l H H') : Tabs T H' := fun p hp => by
  obtain ⟨ps, h1, h2, h3⟩ := t p hp
  refine ⟨ps, e _ _ (ne_of h1 hl (by intro z; cases z)) h1, h2, fun pos cv hc => ?_⟩
  obtain ⟨d, e1, e2⟩ := h3 pos cv hc
  exact ⟨d, e1, e _ _ (ne_of e2 hl (by intro z; cases z)) e2⟩
/-- one of the two pairs that the law looks at -/
def PairOk (cfg : Cfg) (ws : List Write) (H : Hp) (y : V) : Prop := ∃ t pt b ks, y = .ref t ∧ H t = some (.tup [.ref pt, .int b]) ∧ BV H (.ref pt) (b, ks) ∧ PlanP ws ws.length ks ∧ total cfg ws ks = b
theorem PairOk.mono {cfg : Cfg} {ws : List Write} {H H' : Hp} {y : V} (h : PairOk cfg ws H y) (s : Same H H') : PairOk cfg ws H' y := by
  obtain ⟨t, pt, b, ks, h1, h2, ⟨t', l', h3, h4, h5⟩, h6⟩ := h
  exact ⟨t, pt, b, ks, h1, s _ _ h2, ⟨t', l', h3, s _ _ h4, s _ _ h5⟩, h6⟩
def spRight (T : List (Addr × Str)) : Sp := fun vs H Q _ => ∃ (l : Addr) (x y : Int), vs = [.ref l] ∧ H l = some (bagL x y) ∧ BagOk x y ∧ Tabs T H ∧ ∀ H', EB l H H' → Tabs T H' → Q (.bl true) H'
theorem c_law_right (Tx : Txt K mg) (TB : TabB base mg c Pt) (hc : codeOf K (d_Searched_from_here.adr K) = some c) (hm : (Pt, d_Searched_from_here.qual ++ ".<locals>." ++ "<lambda>") ∈ T) (hu : ∀ p ∈ T, p.1 = Pt → p.2 = d_Searched_from_here.qual ++ ".<locals>." ++ "<lambda>") :
    Con P w K mg base 115 (He.ga K "_law_right") ["_law_bag_here"] [] (spRight T) := by
  refine con_of Tx.d_law_right rfl rfl sc_law_right (fun _ _ _ _ _ _ us hl => match us, hl with | [_], _ => rfl) (fun vs H Q E h => ?_) (fun cdv A outer s H vs Q E hr h => ?_)
  · obtain ⟨l, x, y, rfl, _⟩ := h
    rfl
  · obtain ⟨l, x, y, rfl, hl, ok, hT, q⟩ := h
    have nd := sc_law_right.nd
    obtain ⟨pst, hst⟩ := Tx.stall
    have cset := c_law_setting (P := P) (w := w) (base := base) Tx
    have cwords := c_law_words (P := P) (w := w) (base := base) Tx
    have clists := c_law_lists (P := P) (w := w) (base := base) Tx
    have csearch := c_search (P := P) (w := w) Tx TB hc hm hu 106
    have cleast := c_least (P := P) (w := w) (base := base) Tx
    have cmost := c_most (P := P) (w := w) (base := base) Tx
    have cplay := c_Road_play (P := P) (w := w) (base := base) Tx
    have cstall := c_Road_stall (P := P) (w := w) (base := base) Tx
    have hun : (A.deeper (envOfC d_law_right.qual (defScope d_law_right.st) s.heap.objs.size (d_law_right.adr K) cdv)).units + 65 < cLine := by
      have := hr.un
      omega
    refine ⟨_, pss_cons (ss 1 nd (call_c cset (hr.mono (by decide)) Tx.g__law_setting (pa_cons (pv 0) (pa_cons pe_int pa_nil))))
      (pss_cons (ss 2 nd (call_c cwords (hr.mono (by decide)) Tx.g__law_words (pa_cons (pv 0) (pa_cons (pe_fld (pv 1) rfl) (pa_cons pe_int pa_nil)))))
      (pss_cons (ss 3 nd (make_c Tx.m_Road (c_Road_init Tx) (hr.mono (by decide)) Tx.g_Road (pa_cons (pv 1) (pa_cons (pv 2) pa_nil))))
      (pss_cons (ps_setLc (i := 4) (own := [("_law_plan", 8)]) (g := gName 8) (tt := tYes) (te := tProp (He.ga K "Road") (spStall K) [] E0 (tMeth (He.ga K "Road") "play" (spPlay K) [] E0 (tVar 3) (tCons (tVar 8) tNil))) rfl nd rfl rfl (sw_true rfl rfl rfl (by decide +kernel))
          (pi_list (call_c clists (hr.mono (by decide)) Tx.g__law_lists (pa_cons (pv 2) pa_nil))) (blkOk_by (N := N_law_right) (sc := defScope st_law_right) (by decide +kernel)) (fun _ _ _ _ _ => gn 8 nd) (fun _ _ _ _ _ => pts_nil)
          (fun _ _ _ _ _ => prop_c (meth_c (pv 3) Tx.c_Road Tx.t_Road_play cplay (hr.mono (by decide)) (pa_cons (pv 8) pa_nil)) Tx.c_Road hst cstall (hr.mono (by decide))))
      (pss_cons (ss 5 nd (call_c csearch hr Tx.g_search (pa_cons (pv 1) (pa_cons (pv 2) pa_nil))))
      (pss_cons (ps_if (pt_cmpR (op_neD (Nat.lt_of_succ_lt hun)) (pe_lst (pa_cons (pe_ix ix_tup (pv 5) pe_int (fun _ _ => rfl)) (pa_cons (pe_ix ix_tup (pv 5) pe_int (fun _ _ => rfl)) pa_nil)))
          (pe_lst (pa_cons (bi (cr_min rfl) Tx.f_min (pa_cons (pv 4) pa_nil)) (pa_cons (bi (cr_max rfl) Tx.f_max (pa_cons (pv 4) pa_nil)) pa_nil))) (nomark _)) pss_never pss_nil)
      (pss_cons (ps_for PassesOwn.never rfl (pi_list (pe_lst (pa_cons (pe_tup (pa_cons (call_c cleast (hr.mono (by decide)) Tx.g_least (pa_cons (pv 1) (pa_cons (pv 2) pa_nil))) (pa_cons (bi (cr_min rfl) Tx.f_min (pa_cons (pv 4) pa_nil)) pa_nil)))
            (pa_cons (pe_tup (pa_cons (call_c cmost (hr.mono (by decide)) Tx.g_most (pa_cons (pv 1) (pa_cons (pv 2) pa_nil))) (pa_cons (bi (cr_max rfl) Tx.f_max (pa_cons (pv 4) pa_nil)) pa_nil))) pa_nil))))
          (pg_tup rfl (pgs_cons (gn 6 nd) (pgs_cons (gn 7 nd) pgs_nil)))
          (pss_cons (ps_if (PW.pt (pw_or (pt_not (pt_val (bi call_isi Tx.f_isinstance (pa_cons (pv 6) (pa_cons (tyv (n := "tuple") Tx.f_tuple) pa_nil)))))
              (pw_or (pt_cmpR op_ne (bi call_len_seq Tx.f_len (pa_cons (pv 6) pa_nil)) pe_int (nomark _))
              (pw_or (pt_cmpR op_ne (pe_ix ix_tup (pv 6) pe_int (fun _ _ => rfl)) (pv 7) (nomark _))
              (pw_or1 (pt_val (bi call_isi Tx.f_isinstance (pa_cons (pe_ix ix_tup (pv 6) pe_int (fun _ _ => rfl)) (pa_cons (tyv (n := "bool") Tx.f_bool) pa_nil))))))))) pss_never pss_nil)
          (pss_one (ps_if (PW.pt (pw_or (pt_cmpR (op_notInD hun) (pe_ix ix_tup (pv 6) pe_int (fun _ _ => rfl)) (call_c clists (hr.mono (by decide)) Tx.g__law_lists (pa_cons (pv 2) pa_nil)) rfl)
              (pw_or1 (pt_cmpR op_ne (prop_c (meth_c (pv 3) Tx.c_Road Tx.t_Road_play cplay (hr.mono (by decide)) (pa_cons (pe_ix ix_tup (pv 6) pe_int (fun _ _ => rfl)) pa_nil)) Tx.c_Road hst cstall (hr.mono (by decide))) (pv 7) (nomark _))))) pss_never pss_nil))))
      (pss_one (ps_ret pe_bl)))))))), ?_⟩
    -- the setting, the words
    refine ⟨_, rfl, l, x, y, rfl, hl, ok, fun sa H1 cfg x1 y1 e1 l1 ok1 S1 cok s5 => ?_⟩
    obtain ⟨dsa, tsa, p0, p1, hsa, _⟩ := id S1
    refine ⟨_, rfl, _, rfl, sa, _, dsa, _, _, rfl, hsa, Tx.c_Setting, Tx.n_Setting_size, lk_Setting_size, l, cfg.size, x1, y1, rfl, l1, ok1, cok.s1, s5, fun wa H2 ws x2 y2 e2 l2 ok2 cv2 dr => ?_⟩
    have S2 := S1.ex l1 e2
    have fit := dr.fit cok s5
    have hf := dr.fut cok.s1
    have T2 := tabs_ex hT hl (e1.trans e2)
    have e02 := e1.trans e2
    clear S1 hsa
    -- the road
    refine ⟨_, rfl, _, rfl, fun ro dd hx0 hdd0 hn => ⟨ro, dd, sa, wa, cfg, ws, H2, rfl, upd_same, made_same hx0 hdd0 hn (Same.refl H2), hx0, S2, cv2, fit, fun B3 H3 r3 sl dl sB3 D3 => ⟨rfl, ?_⟩⟩⟩
    have s23 := sB3.trans D3.same
    have S3 := S2.mono s23
    have cv3 := cv2.mono s23
    -- each list played
    refine ⟨_, rfl, wa, ws, rfl, cv3, fit.n5, fun la H4 s34 L4 => ?_⟩
    obtain ⟨as, hla, hA⟩ := L4
    have D4 := D3.mono s34
    refine ⟨la, rfl, ⟨_, SqL.of hla⟩, fun fl hfl => ?_⟩
    refine lc_list (K := K) (xs := as.map V.ref) (fun i H' => Same H4 H' ∧ H' fl = some (.lst ((((listsN ws ws.length).take i).map (total cfg ws)).map V.int))) ⟨same_new (Same.refl _) hfl, upd_same⟩ (fun i H' _ z => SqL.of (z.1 _ _ hla)) (fun i y H' hi z => ?_) (fun H5 z => ?_)
    · obtain ⟨s45, f5⟩ := z
      obtain ⟨c, ec, rfl⟩ := ref_at hi
      obtain ⟨ks, eks, hc5⟩ := hA.get' ec
      have hpl := (LW.mem_listsN _ _).mp (List.mem_of_getElem? eks)
      have D5 := D4.mono s45
      obtain ⟨dro, hro⟩ := D5.ins
      refine ⟨rfl, ?_⟩
      refine iteT (B := False) ?_
      refine ⟨_, rfl, ro, dro, _, rfl, hro, no_Road_play, _, rfl, B3, ro, r3, sa, sl, dl, c, cfg, ws, scene0, 0, ks, rfl, D5, s45 _ _ hc5, hpl, fun H6 B6 ro6 r6 sl6 dl6 sc6 n6 s56 D6 et => ?_⟩
      obtain ⟨dr6, hr6⟩ := D6.ins
      refine ⟨ro6, dr6, _, rfl, hr6, B6, ro6, r6, sa, sl6, dl6, cfg, ws, sc6, n6, rfl, D6, _, s56 _ _ f5, ?_, same_put (s45.trans s56) hfl, ?_⟩
      · rw [List.length_map, List.length_map, List.length_take]
        exact small1000 (Nat.le_trans (Nat.min_le_right _ _) (Nat.le_trans (lists_len5 fit.n5) (by decide)))
      · have e1 : (listsN ws ws.length).take (i + 1) = (listsN ws ws.length).take i ++ [ks] := by rw [List.take_add_one, eks]; rfl
        rw [upd_same, e1, List.map_append, List.map_append, et]
        rfl
    · obtain ⟨s45, f5⟩ := z
      rw [List.length_map, hA.len, List.take_length] at f5
      have s25 := s23.trans (s34.trans s45)
      have M5 : Made K H5 sa wa ro fl cfg ws := ⟨S2.mono s25, cv2.mono s25, ⟨B3, r3, sl, dl, D4.mono s45⟩, f5⟩
      clear D4 D3 f5 hla hA hfl S3 cv3
      -- the search
      have hmu : mu cfg ws scene0 < (106 : Nat) := by
        rw [LW.mu0 fit.ok]
        have := fit.n5
        omega
      refine ⟨_, rfl, _, rfl, sa, wa, cfg, ws, rfl, M5.set, M5.conv, fit, small_of fit hf, T2.ext s25, hmu, by decide, by omega, fun H7 t k1 k2 eN T7 ht => ?_⟩
      have M7 := M5.en eN
      have e07 : EB l H H7 := (EB.ex (e02.trans (Ex.of s25))).trans (EB.en eN)
      clear M5 T2 hmu
      -- if [told[0], told[2]] != [min(found), max(found)]
      have pos := lists_pos (cfg := cfg) (ws := ws)
      refine ⟨_, rfl, t, _, 0, _, rfl, rfl, SqT.of ht, atI_nat (j := 0) rfl, _, rfl, t, _, 2, _, rfl, rfl, SqT.of ht, atI_nat (j := 2) rfl, (by show 2 ≤ sizeLine; decide), fun q1 hq1 => ?_⟩
      have s78 := same_new (Same.refl H7) hq1 (o := .lst [V.int (best0 cfg 1 ws), .int (best0 cfg (-1) ws)])
      have q18 : upd H7 q1 (.lst [V.int (best0 cfg 1 ws), .int (best0 cfg (-1) ws)]) q1 = some (.lst ([best0 cfg 1 ws, best0 cfg (-1) ws].map V.int)) := upd_same
      have M8 := M7.mono s78
      generalize upd H7 q1 (.lst [V.int (best0 cfg 1 ws), .int (best0 cfg (-1) ws)]) = H8 at s78 q18 M8
      refine ⟨_, rfl, fl, _, rfl, SqL.of M8.found, pos, fun m hm hle => ?_⟩
      obtain rfl := lists_best (cfg := cfg) (ws := ws) (.inl rfl) hm (fun y hy => by have := hle y hy; omega)
      refine ⟨_, rfl, fl, _, rfl, SqL.of M8.found, pos, fun m hm' hle' => ?_⟩
      obtain rfl := lists_best (cfg := cfg) (ws := ws) (sg := -1) (.inr rfl) hm' (fun y hy => by have := hle' y hy; omega)
      refine ⟨(by show 2 ≤ sizeLine; decide), fun q2 hq2 => ?_⟩
      have s89 := same_new (Same.refl H8) hq2 (o := .lst [V.int (best0 cfg 1 ws), .int (best0 cfg (-1) ws)])
      have q29 : upd H8 q2 (.lst [V.int (best0 cfg 1 ws), .int (best0 cfg (-1) ws)]) q2 = some (.lst ([best0 cfg 1 ws, best0 cfg (-1) ws].map V.int)) := upd_same
      have M9 := M8.mono s89
      have q19 := s89 _ _ q18
      generalize upd H8 q2 (.lst [V.int (best0 cfg 1 ws), .int (best0 cfg (-1) ws)]) = H9 at s89 q29 M9 q19
      have sh := ints_shaped [best0 cfg 1 ws, best0 cfg (-1) ws]
      refine ⟨dInts [best0 cfg 1 ws, best0 cfg (-1) ws], dInts [best0 cfg 1 ws, best0 cfg (-1) ws], LiAt.dp q19, LiAt.dp q29, sh, sh, _, rfl, ?_⟩
      rw [SeqAt.eqv_refl _ (SeqAt.canLay_of_shaped sh)]
      refine iteF ?_
      have s79 := s78.trans s89
      -- the pairs
      have wok := fit.wr
      refine ⟨_, rfl, _, rfl, sa, wa, cfg, ws, rfl, M9.set, cok, M9.conv, fit.n5, wok, fun t1 H10 ks1 s910 bv1 pp1 et1 => ?_⟩
      have M10 := M9.mono s910
      refine ⟨_, rfl, fl, _, rfl, SqL.of M10.found, pos, fun m hm2 hle2 => ?_⟩
      obtain rfl := lists_best (cfg := cfg) (ws := ws) (.inl rfl) hm2 (fun y hy => by have := hle2 y hy; omega)
      refine ⟨(by show 2 ≤ sizeLine; decide), fun t2 ht2 => ?_⟩
      have s11 := same_new (Same.refl H10) ht2 (o := .tup [V.ref t1, .int (best0 cfg 1 ws)])
      have P11 : PairOk cfg ws (upd H10 t2 (.tup [V.ref t1, .int (best0 cfg 1 ws)])) (.ref t2) := by
        obtain ⟨t', l', h3, h4, h5⟩ := bv1
        exact ⟨t2, t1, best0 cfg 1 ws, ks1, rfl, upd_same, ⟨t', l', h3, s11 _ _ h4, s11 _ _ h5⟩, pp1, et1⟩
      have M11 := M10.mono s11
      generalize upd H10 t2 (.tup [V.ref t1, .int (best0 cfg 1 ws)]) = H11 at s11 P11 M11
      refine ⟨_, rfl, _, rfl, sa, wa, cfg, ws, rfl, M11.set, cok, M11.conv, fit.n5, wok, fun t3 H12 ks2 s1112 bv2 pp2 et2 => ?_⟩
      have M12 := M11.mono s1112
      refine ⟨_, rfl, fl, _, rfl, SqL.of M12.found, pos, fun m hm3 hle3 => ?_⟩
      obtain rfl := lists_best (cfg := cfg) (ws := ws) (sg := -1) (.inr rfl) hm3 (fun y hy => by have := hle3 y hy; omega)
      refine ⟨(by show 2 ≤ sizeLine; decide), fun t4 ht4 => ?_⟩
      have s13 := same_new (Same.refl H12) ht4 (o := .tup [V.ref t3, .int (best0 cfg (-1) ws)])
      have P13 : PairOk cfg ws (upd H12 t4 (.tup [V.ref t3, .int (best0 cfg (-1) ws)])) (.ref t4) := by
        obtain ⟨t', l', h3, h4, h5⟩ := bv2
        exact ⟨t4, t3, best0 cfg (-1) ws, ks2, rfl, upd_same, ⟨t', l', h3, s13 _ _ h4, s13 _ _ h5⟩, pp2, et2⟩
      have P12 := P11.mono (s1112.trans s13)
      have M13 := M12.mono s13
      have s713 := s79.trans (s910.trans (s11.trans (s1112.trans s13)))
      generalize upd H12 t4 (.tup [V.ref t3, .int (best0 cfg (-1) ws)]) = H13 at s13 P13 M13 P12 s713
      refine ⟨(by show 2 ≤ sizeLine; decide), fun pl hpl => ?_⟩
      have s14 := same_new (Same.refl H13) hpl (o := .lst [V.ref t2, .ref t4])
      have hp14 : upd H13 pl (.lst [V.ref t2, .ref t4]) pl = some (.lst [V.ref t2, .ref t4]) := upd_same
      have P14 : ∀ y ∈ [V.ref t2, .ref t4], PairOk cfg ws (upd H13 pl (.lst [V.ref t2, .ref t4])) y := by
        intro y hy
        rcases List.mem_cons.mp hy with e | hy
        · rw [e]; exact P12.mono s14
        · rw [List.mem_singleton.mp hy]; exact P13.mono s14
      have M14 := M13.mono s14
      have s714 := s713.trans s14
      generalize upd H13 pl (.lst [V.ref t2, .ref t4]) = H14 at s14 P14 M14 s714 hp14
      clear M7 M8 M9 M10 M11 M12 M13 P11 P12 P13 s13 s14 s1112 s11 s910 s79 s78 s89
      refine ⟨pl, rfl, ⟨_, SqL.of hp14⟩, for_list (K := K) (xs := [V.ref t2, .ref t4]) (fun i σ H' => ∃ u6 u7 : Option V, σ = [some (.ref l), some (.ref sa), some (.ref wa), some (.ref ro), some (.ref fl), some (.ref t), u6, u7, none] ∧ Same H14 H') ⟨none, none, rfl, Same.refl _⟩ (fun i σ H' _ ⟨_, _, _, z⟩ => SqL.of (z _ _ hp14)) ?_ ?_⟩
      · rintro i y σ H' hi ⟨u6, u7, rfl, s15⟩
        obtain ⟨tt, pt, b, ks, rfl, htt, ⟨t', lk, e3, hpt, hlk⟩, pp, et⟩ := (P14 y (List.mem_of_getElem? hi)).mono s15
        obtain rfl : pt = t' := by injection e3
        have M15 := M14.mono s15
        refine ⟨tt, _, rfl, SqT.of htt, rfl, _, _, rfl, _, _, rfl, rfl, ?_⟩
        have eb : (!decide (V.int b = V.int b)) = false := by simp
        refine ⟨_, rfl, _, _, _, _, true, rfl, .ty "tuple", .base (.tup hpt), kit_ty (by decide +kernel), true, rfl, iteF ?_⟩
        refine ⟨_, rfl, pt, _, rfl, .inr (SqT.of hpt), rfl, _, rfl, iteF ?_⟩
        refine ⟨_, rfl, pt, _, 0, _, rfl, rfl, SqT.of hpt, atI_nat (j := 0) rfl, _, rfl, rfl, _, rfl, ?_⟩
        rw [eb]
        refine iteF ⟨_, rfl, pt, _, 0, _, rfl, rfl, SqT.of hpt, atI_nat (j := 0) rfl, _, _, _, _, false, rfl, .ty "bool", .base (.int b), kit_ty (by decide +kernel), false, rfl, iteF ?_⟩
        refine ⟨_, rfl, pt, _, 1, _, rfl, rfl, SqT.of hpt, atI_nat (j := 1) rfl, ?_⟩
        refine ⟨_, rfl, wa, ws, rfl, M15.conv, fit.n5, fun la' H16 s16 L16 => ?_⟩
        have hlk6 : LiAt H16 lk ks := s16 _ _ hlk
        refine ⟨dInts ks, (listsN ws ws.length).map dInts, LiAt.dp hlk6, L16.dp, ints_shaped _, lists_shaped _, _, rfl, ?_⟩
        rw [lists_any ((LW.mem_listsN _ _).mpr pp)]
        refine iteF ?_
        obtain ⟨B6, r6, sl6, dl6, D6⟩ := (M15.mono s16).road
        obtain ⟨dr6, hr6⟩ := D6.ins
        refine ⟨_, rfl, ro, dr6, _, rfl, hr6, no_Road_play, _, rfl, pt, _, 1, _, rfl, rfl, SqT.of (s16 _ _ hpt), atI_nat (j := 1) rfl, B6, ro, r6, sa, sl6, dl6, lk, cfg, ws, scene0, 0, ks, rfl, D6, hlk6, pp, fun H7' B7 ro7 r7 sl7 dl7 sc7 n7 s67 D7 et7 => ?_⟩
        obtain ⟨dr7, hr7⟩ := D7.ins
        refine ⟨ro7, dr7, _, rfl, hr7, B7, ro7, r7, sa, sl7, dl7, cfg, ws, sc7, n7, rfl, D7, _, rfl, rfl, _, rfl, ?_⟩
        rw [et7, et, eb]
        exact iteF ⟨_, _, rfl, s15.trans (s16.trans s67)⟩
      · rintro σ H' ⟨u6, u7, rfl, s15⟩
        exact q H' (e07.trans (EB.of (s714.trans s15))) (T7.ext (s714.trans s15))
end
end Lw

namespace Lw
open PySem PySem.Spec PyProof.Rows L2 LamX
open LW (Hold Mode Pol Cfg Write Side Scene Parts Way Rule listsN total best0 PlanP scene0 fut mu)
section
variable {P : Program} {w : World} {K : PySem.W.Frag} {mg : Str → Option Value} {base : Heap} {c Pt : Addr} {T : List (Addr × Str)}
theorem SqL_en {H H' : Hp} {a : Addr} {xs : List V} (e : ExtN H H') (h : SqL K H a xs) : SqL K H' a xs := by
  rcases h with (h | ⟨o, h⟩) | h
  · exact .inl (.inl (e _ _ h fun _ z => nomatch z))
  · exact .inl (.inr ⟨o, e _ _ h fun _ z => nomatch z⟩)
  · exact .inr h
def cfg3 : Cfg := ⟨3, polD, polD⟩
theorem cfg3_ok : CfgOk cfg3 := ⟨by decide, by decide, fun e => by cases e <;> exact polD_ok⟩
theorem best3 (sg : Int) : best0 cfg3 sg [] = 0 := rfl
def d0 : PyData := .tuple [.int 0, .list []]
theorem d0_shaped : SeqAt.shaped d0 = true := by decide
theorem d0_eqv : PyData.eqv d0 d0 = true := SeqAt.eqv_refl _ (SeqAt.canLay_of_shaped d0_shaped)
theorem bv_d0 {H : Hp} {t : Addr} {sg : Int} {ks : List Int} (h : BV H (.ref t) (best0 cfg3 sg [], ks)) (p : PlanP [] ([] : List Write).length ks) : Dp K H (.ref t) d0 := by
  obtain ⟨t', lk, e, h1, h2⟩ := h
  obtain rfl : t = t' := by injection e
  have ek : ks = [] := List.length_eq_zero_iff.mp p.1
  subst ek
  have h2 : H lk = some (.lst []) := h2
  exact .tup (SqT.of h1) (.cons (.int _) (.cons (.lst (SqL.of h2) .nil) .nil))
def spLaw (K : PySem.W.Frag) (T : List (Addr × Str)) : Sp := fun vs H Q _ => ∃ (a : Addr) (ns : List Int), vs = [.ref a] ∧ SqL K H a (ns.map V.int) ∧ ns.length ≤ 63 ∧ Tabs T H ∧ ∀ H', Q (.bl true) H'
theorem n_law {vs : List V} {H : Hp} {Q : VK} {E : XK} (h : spLaw K T vs H Q E) : vs.length = ["_law_script"].length := by
  obtain ⟨a, ns, rfl, _⟩ := h
  rfl
theorem b_law (Tx : Txt K mg) (TB : TabB base mg c Pt) (hc : codeOf K (d_Searched_from_here.adr K) = some c) (hm : (Pt, d_Searched_from_here.qual ++ ".<locals>." ++ "<lambda>") ∈ T) (hu : ∀ p ∈ T, p.1 = Pt → p.2 = d_Searched_from_here.qual ++ ".<locals>." ++ "<lambda>") :
    BodyQ P w K mg base 115 N_law d_law (spLaw K T) := by
  intro cdv A outer s H vs Q E hr h
  · obtain ⟨a, ns, rfl, hS, hn, hT, q⟩ := h
    have nd := sc_law.nd
    have cright := c_law_right (P := P) (w := w) Tx TB hc hm hu
    have cbag := c_law_bag (P := P) (w := w) (base := base) Tx
    have cleast := c_least (P := P) (w := w) (base := base) Tx
    have cmost := c_most (P := P) (w := w) (base := base) Tx
    have cs := c_Setting (P := P) (w := w) (base := base) Tx
    have hun : (A.deeper (envOfC d_law.qual (defScope d_law.st) s.heap.objs.size (d_law.adr K) cdv)).units + 64 < cLine := by
      have := hr.un
      omega
    refine ⟨_, pss_cons (ps_for PassesOwn.never rfl (pi_range1 rfl Tx.f_range (pa_cons (bi (call_max2 rfl) Tx.f_max (pa_cons pe_int (pa_cons (bi (call_min2 rfl) Tx.f_min (pa_cons pe_int (pa_cons (bi call_len_seq Tx.f_len (pa_cons (pv 0) pa_nil)) pa_nil))) pa_nil))) pa_nil)) (gn 1 nd)
        (pss_one (ps_if (pt_not (pt_val (call_c cright hr Tx.g__law_right (pa_cons (call_c cbag (hr.mono (by decide)) Tx.g__law_bag (pa_cons (pv 0) (pa_cons (pv 1) pa_nil))) pa_nil)))) pss_never pss_nil)))
      (pss_one (ps_ret (pe_and (pe_cmpR (op_eqD hun) (call_c cleast (hr.mono (by decide)) Tx.g_least (pa_cons (StX.pe_makeR Tx.m_Setting cs (hr.mono (by decide)) rfl Tx.g_Setting pass0 (pa_cons pe_int pa_nil)) (pa_cons (pe_lst pa_nil) pa_nil))) (pe_tup (pa_cons pe_int (pa_cons (pe_lst pa_nil) pa_nil))) (nomark _))
        (pe_one (pe_cmpR (op_eqD hun) (call_c cmost (hr.mono (by decide)) Tx.g_most (pa_cons (StX.pe_makeR Tx.m_Setting cs (hr.mono (by decide)) rfl Tx.g_Setting pass0 (pa_cons pe_int pa_nil)) (pa_cons (pe_lst pa_nil) pa_nil))) (pe_tup (pa_cons pe_int (pa_cons (pe_lst pa_nil) pa_nil))) (nomark _)))))), ?_⟩
    -- how many bags
    have three : ∀ k : Nat, k ≤ 63 → ∃ n : Int, n = (if (if (k : Int) < 3 then (k : Int) else 3) > 2 then (if (k : Int) < 3 then (k : Int) else 3) else 2) ∧ 0 ≤ n ∧ n ≤ 3 := by
      intro k _
      refine ⟨_, rfl, ?_, ?_⟩ <;> split <;> (try split) <;> omega
    obtain ⟨n, en, n0, n3⟩ := three ns.length hn
    have el : ((((ns.map V.int).length : Nat) : Int)) = ((ns.length : Nat) : Int) := by rw [List.length_map]
    refine ⟨_, rfl, a, _, rfl, .inl hS, _, _, rfl, _, _, rfl, n, ?_, by omega, by omega, for_range (n := n.toNat) (fun i σ H' => (∃ u, σ = [some (.ref a), u]) ∧ ExtN H H' ∧ Tabs T H') ⟨⟨none, rfl⟩, ExtN.refl H, hT⟩ ?_ ?_⟩
    · rw [en, el]
    · rintro i σ H1 hi ⟨⟨u, rfl⟩, e1, T1⟩
      refine ⟨_, rfl, _, rfl, a, ns, i, (by rw [Int.zero_add]; rfl), SqL_en e1 hS, hn, by omega, fun l x y hl ok => ?_⟩
      have sB := same_new (Same.refl H1) hl (o := bagL x y)
      refine ⟨l, x, y, rfl, upd_same, ok, T1.ext sB, fun H2 e2 T2 => ?_⟩
      refine ⟨_, rfl, iteF ⟨⟨_, rfl⟩, e1.trans fun b o hb hn => e2 b o (fun z => by rw [z, hl] at hb; cases hb) (sB _ _ hb) hn, T2⟩⟩
    · rintro σ H1 ⟨⟨u, rfl⟩, e1, T1⟩
      -- least(Setting(3), []) == (0, [])
      intro z dz hz hdz ne
      have sN : Same H1 (upd (upd H1 dz (.own z)) z (.ins (He.ga K "Setting") dz [])) := same_new (same_new (Same.refl _) hdz) (by rw [upd_ne (Ne.symm ne)]; exact hz)
      refine ⟨[.ref z, .int 3], [], rfl, rfl, (by show 0 ≤ sizeLine; decide), fun p hp => ?_⟩
      refine ⟨z, dz, p, cfg3, [], rfl, upd_new hp upd_same, upd_same, by decide, by decide, .inr ⟨rfl, rfl, rfl⟩, fun H2 keep sA => ⟨rfl, ?_⟩⟩
      clear keep
      refine ⟨(by show 0 ≤ sizeLine; decide), fun e hel => ?_⟩
      have s3 := same_new (Same.refl H2) hel (o := .lst [])
      refine ⟨z, e, cfg3, [], rfl, sA.mono s3, cfg3_ok, ⟨[], upd_same, All2.nil⟩, by decide, (fun _ h => nomatch h), fun t H4 ks s4 bv pp _ => ?_⟩
      refine ⟨(by show 0 ≤ sizeLine; decide), fun e2 he2 => ?_⟩
      have s5 := same_new (Same.refl H4) he2 (o := .lst [])
      have f5 : upd H4 e2 (.lst []) e2 = some (.lst []) := upd_same
      generalize upd H4 e2 (.lst []) = H5 at s5 f5
      refine ⟨(by show 2 ≤ sizeLine; decide), fun t2 ht2 => ?_⟩
      have s6 := same_new (Same.refl H5) ht2 (o := .tup [V.int 0, .ref e2])
      have t6 : upd H5 t2 (.tup [V.int 0, .ref e2]) t2 = some (.tup [V.int 0, .ref e2]) := upd_same
      generalize upd H5 t2 (.tup [V.int 0, .ref e2]) = H6 at s6 t6
      have bd : Dp K H6 (.ref t) d0 := by
        obtain ⟨t', lk, q1, q2, q3⟩ := bv
        exact bv_d0 ⟨t', lk, q1, s6 _ _ (s5 _ _ q2), s6 _ _ (s5 _ _ q3)⟩ pp
      have bd2 : Dp K H6 (.ref t2) d0 := .tup (SqT.of t6) (.cons (.int _) (.cons (.lst (SqL.of (s6 _ _ f5)) .nil) .nil))
      refine ⟨d0, d0, bd, bd2, d0_shaped, d0_shaped, ?_⟩
      rw [d0_eqv]
      refine ⟨_, rfl, iteT ?_⟩
      clear bv bd bd2 s6 t6 s5 f5 s4 s3 sA pp
      intro z dz hz hdz ne
      have sN : Same H6 (upd (upd H6 dz (.own z)) z (.ins (He.ga K "Setting") dz [])) := same_new (same_new (Same.refl _) hdz) (by rw [upd_ne (Ne.symm ne)]; exact hz)
      refine ⟨[.ref z, .int 3], [], rfl, rfl, (by show 0 ≤ sizeLine; decide), fun p hp => ?_⟩
      refine ⟨z, dz, p, cfg3, [], rfl, upd_new hp upd_same, upd_same, by decide, by decide, .inr ⟨rfl, rfl, rfl⟩, fun H8 keep sA => ⟨rfl, ?_⟩⟩
      clear keep
      refine ⟨(by show 0 ≤ sizeLine; decide), fun e hel => ?_⟩
      have s3 := same_new (Same.refl H8) hel (o := .lst [])
      refine ⟨z, e, cfg3, [], rfl, sA.mono s3, cfg3_ok, ⟨[], upd_same, All2.nil⟩, by decide, (fun _ h => nomatch h), fun t H9 ks s4 bv pp _ => ?_⟩
      refine ⟨(by show 0 ≤ sizeLine; decide), fun e2 he2 => ?_⟩
      have s5 := same_new (Same.refl H9) he2 (o := .lst [])
      have f5 : upd H9 e2 (.lst []) e2 = some (.lst []) := upd_same
      generalize upd H9 e2 (.lst []) = H10 at s5 f5
      refine ⟨(by show 2 ≤ sizeLine; decide), fun t2 ht2 => ?_⟩
      have s6 := same_new (Same.refl H10) ht2 (o := .tup [V.int 0, .ref e2])
      have t6 : upd H10 t2 (.tup [V.int 0, .ref e2]) t2 = some (.tup [V.int 0, .ref e2]) := upd_same
      generalize upd H10 t2 (.tup [V.int 0, .ref e2]) = H11 at s6 t6
      have bd : Dp K H11 (.ref t) d0 := by
        obtain ⟨t', lk, q1, q2, q3⟩ := bv
        exact bv_d0 ⟨t', lk, q1, s6 _ _ (s5 _ _ q2), s6 _ _ (s5 _ _ q3)⟩ pp
      have bd2 : Dp K H11 (.ref t2) d0 := .tup (SqT.of t6) (.cons (.int _) (.cons (.lst (SqL.of (s6 _ _ f5)) .nil) .nil))
      refine ⟨d0, d0, bd, bd2, d0_shaped, d0_shaped, ?_⟩
      rw [d0_eqv]
      exact q H11
end
end Lw

/-! What the head's run tells: each def at its address, the facts by names; all that the walk asks comes of it. -/
namespace Lw
open PySem PySem.Spec PyProof.Rows L2
abbrev Fr := PySem.W.Frag
def defAtV (K : Fr) (a : Addr) : He.FnW := match K.lookup a with
  | some o => (match o.data with
    | .func fd => some (fd.name, fd.qualname, fd.params, fd.body, fd.scope, fd.globals, fd.closure, fd.builtins)
    | _ => none)
  | none => none
def DefA.due (d : DefA) : He.FnW := some (d.name, d.qual, defArgs d.st, .stmts (defBody d.st), defScope d.st, mainGlobals, [], builtinsNs)
def DefA.sound (K : Fr) (d : DefA) : Bool := PySem.W.keepIn K (.ref (d.adr K)) && (match K.lookup (d.adr K) with
  | some o => (match o.data with
    | .func fd => PySem.W.codeIn K fd.code d.qual && (He.dflB K fd.defaults (d.dfl.map (He.Dv.v K)) && He.kwdB K fd.kwdefaults (d.kwd.map fun q => (q.1, q.2.v K)))
    | _ => false)
  | none => false)
theorem DefA.is_of {K : Fr} {d : DefA} (e : defAtV K (d.adr K) = d.due) (c : d.sound K = true) : d.Is K := by
  obtain ⟨c0, c1⟩ := Bool.and_eq_true_iff.mp c
  unfold defAtV at e
  cases hk : K.lookup (d.adr K) with
  | none => rw [hk] at c1; cases c1
  | some o =>
    rw [hk] at c1 e
    rcases o with ⟨u1, u2, dt, u4⟩
    cases dt with
    | func fd =>
      rcases fd with ⟨a1, a2, a3, a4, a5, a6, a7, a8, a9, a10, a11, a12, a13, a14, a15⟩
      have e := Option.some.inj e
      simp only [Prod.mk.injEq] at e
      obtain ⟨g1, g2, g3, g4, g5, g6, g7, g8⟩ := e
      obtain ⟨c2, c3⟩ := Bool.and_eq_true_iff.mp c1
      obtain ⟨c4, c5⟩ := Bool.and_eq_true_iff.mp c3
      subst g1 g2 g3 g4 g5 g6 g7 g8
      exact ⟨_, ⟨⟨u1, u2, a8, a9, a10, a11, a12, a13, a14, u4, rfl, hk, c2, He.dflB_ok c4, He.kwdB_ok c5⟩, c0⟩⟩
    | _ => cases c1
/-! ### the facts by names -/
def factL : List He.Fa := gloL.map He.Fa.glo ++ gloL.map He.Fa.keep ++ freeL.map He.Fa.free ++ intL.map (fun p => He.Fa.int p.1 p.2) ++ strL.map (fun p => He.Fa.str p.1 p.2) ++ clsL.map He.Fa.cls ++ clsL.map He.Fa.mkr ++ noatL.map (fun p => He.Fa.noat p.1 p.2) ++ methL.map (fun p => He.Fa.meth p.1 p.2) ++ [He.Fa.glo "MODES", He.Fa.glo "ARRIVALS"]
/-! ### the other facts -/
def tupAt (K : Fr) (a : Addr) (vs : List V) : Bool := match K.lookup a with
  | some o => decide (o.cls = .type "tuple") && (match o.data with
    | .seq its _ => decide (its.size ≤ sizeLine) && He.relAll vs its.toList
    | _ => false)
  | none => false
theorem tupAt_ok {K : Fr} {a : Addr} {vs : List V} (h : tupAt K a vs = true) (H : Hp) : SqT K H a vs := by
  unfold tupAt at h
  cases hk : K.lookup a with
  | none => rw [hk] at h; cases h
  | some o =>
    rw [hk] at h
    obtain ⟨h1, h2⟩ := Bool.and_eq_true_iff.mp h
    cases hd : o.data with
    | seq its n =>
      rw [hd] at h2
      obtain ⟨h3, h4⟩ := Bool.and_eq_true_iff.mp h2
      exact .inr ⟨o, its, n, hk, of_decide_eq_true h1, hd, of_decide_eq_true h3, He.relAll_ok h4⟩
    | _ => rw [hd] at h2; cases h2
def propAt (K : Fr) (C f : Str) : Bool := match PySem.W.findIn K (.ref (He.ga K C)) f with
  | some (some (.ref p)) => decide (PySem.W.specialIn K (.ref p) "__get__" = some (some (.builtin "property.__get__"))) && (decide (PySem.W.takesIn K (.ref p) = some true) && (match PySem.W.recIn K p "property" with
    | some (.ref _ :: _) => true
    | _ => false))
  | _ => false
theorem propAt_ok {K : Fr} {C f : Str} (h : propAt K C f = true) : ∃ p, PropOf K (He.ga K C) f p (pa K C f) := by
  unfold propAt at h
  split at h
  · rename_i p hp
    obtain ⟨h1, h2⟩ := Bool.and_eq_true_iff.mp h
    obtain ⟨h3, h4⟩ := Bool.and_eq_true_iff.mp h2
    split at h4
    · rename_i g rest hr
      have e : pa K C f = g := by
        unfold pa
        rw [hp]
        show (match PySem.W.recIn K p "property" with
          | some (.ref g :: _) => g
          | _ => 0) = g
        rw [hr]
      rw [e]
      exact ⟨p, hp, of_decide_eq_true h1, of_decide_eq_true h3, rest, hr⟩
    · cases h4
  · cases h
def holdsAt (K : Fr) : Bool := PySem.W.readsIn K (He.ga K "Policy") (.type "type") && (decide (PySem.W.specialIn K (.ref (He.ga K "Policy")) "__getattribute__" = some (some (.builtin "type.__getattribute__"))) && (match PySem.W.findCls K (.ref (He.ga K "Policy")) (.type "type") "HOLDS" with
  | some (.val (.ref T)) => tupAt K T [.str "off", .str "partial", .str "all"]
  | _ => false))
theorem holdsAt_ok {K : Fr} (h : holdsAt K = true) : ∃ mc T, ClX.CRead K (He.ga K "Policy") mc ∧ ClX.CVal K (He.ga K "Policy") mc "HOLDS" (.ref T) (.ref T) ∧ ∀ H, SqT K H T [.str "off", .str "partial", .str "all"] := by
  obtain ⟨h1, h2⟩ := Bool.and_eq_true_iff.mp h
  obtain ⟨h3, h4⟩ := Bool.and_eq_true_iff.mp h2
  split at h4
  · rename_i T hT
    exact ⟨.type "type", T, ⟨h1, of_decide_eq_true h3⟩, ⟨hT, rfl⟩, tupAt_ok h4⟩
  · cases h4
def arrAt (K : Fr) : Bool := match K.lookup (He.ga K "ARRIVALS") with
  | some o => decide (o.cls = .type "tuple") && o.dict.isNone
  | none => false
theorem arrAt_ok {K : Fr} (h : arrAt K = true) : ∃ o, K.lookup (He.ga K "ARRIVALS") = some o ∧ o.cls = .type "tuple" ∧ o.dict = none := by
  unfold arrAt at h
  cases hk : K.lookup (He.ga K "ARRIVALS") with
  | none => rw [hk] at h; cases h
  | some o =>
    rw [hk] at h
    obtain ⟨h1, h2⟩ := Bool.and_eq_true_iff.mp h
    exact ⟨o, rfl, of_decide_eq_true h1, Option.isNone_iff_eq_none.mp h2⟩
abbrev lamP : Str × Option Str := ("Searched", some "from_here")
/-- all the rest -/
def restL (K : Fr) : List Bool := [propAt K "Road" "is_over", propAt K "Road" "stall_count", tupAt K (He.ga K "MODES") [.str "plain", .str "push", .str "more"], tupAt K (He.ga K "ARRIVALS") [.str "arrive 0", .str "arrive 1"], holdsAt K,
  decide (PySem.W.kitOne K (.ref (He.ga K "Policy")) (.ref (He.ga K "Policy")) = some true), decide (PySem.W.findIn K (.ref (He.ga K "Policy")) "__class__" = some (some (.builtin "object.__class__"))),
  decide (PySem.W.specialIn K (.builtin "object.__class__") "__get__" = some (some (.builtin "getset_descriptor.__get__"))), decide (PySem.W.takesIn K (.builtin "object.__class__") = some true), arrAt K,
  decide (PySem.W.mroIn K (He.ga K "Policy") (.type "object") = some true), decide (Lw.codeOf K (d_Searched_from_here.adr K) = some (He.codeOf K lamP))]
/-- the table of from_here's code -/
def tabB (g : Addr → Option Obj) (K : Fr) : Bool := PySem.W.codeHdIn K (He.cT K lamP).1 (He.cT K lamP).2 && (match g (He.cT K lamP).2 with
  | some o => He.emptyTab o
  | none => false)
abbrev AlL : Type := Bool × List He.FnW
def obsK (g : Addr → Option Obj) (K : Fr) : AlL := ((factL.all fun f => f.ok K) && ((defsL.all fun d => d.sound K) && ((restL K).all id && tabB g K)), defsL.map fun d => defAtV K (d.adr K))
/-- what stands in the steps behind these -/
def next (g : Addr → Option Obj) (as : List Addr) : List Addr := as.flatMap fun a => match g a with
  | some o => He.refsD o
  | none => []
def steps (g : Addr → Option Obj) : Nat → List Addr → List Addr
  | 0, as => as
  | n + 1, as => as ++ steps g n (next g as)
def reach (g : Addr → Option Obj) (n : Nat) : List Addr := steps g n [mainGlobals, cStatics]
def obsL (n : Nat) (g : Addr → Option Obj) : AlL := obsK g (He.frT g (reach g n))
def valL : AlL := (true, defsL.map DefA.due)
structure SaysL (h : Heap) (K : Fr) : Prop where
  facts : ∀ f ∈ factL, f.ok K = true
  defs : ∀ d ∈ defsL, d.Is K
  rest : ∀ b ∈ restL K, b = true
  hd : PySem.W.codeHdIn K (He.cT K lamP).1 (He.cT K lamP).2 = true
  out : K.lookup (He.cT K lamP).2 = none
  empty : h.get? (He.cT K lamP).2 = some { cls := .none, data := .fields #[] }
theorem saysL_of {n : Nat} {h : Heap} (e : obsL n h.get? = valL) : SaysL h (He.frT h.get? (reach h.get? n)) := by
  have e1 := congrArg Prod.fst e
  have e2 := congrArg Prod.snd e
  obtain ⟨h1, h2⟩ := Bool.and_eq_true_iff.mp e1
  obtain ⟨h3, h4⟩ := Bool.and_eq_true_iff.mp h2
  obtain ⟨h5, h6⟩ := Bool.and_eq_true_iff.mp h4
  obtain ⟨h7, h8⟩ := Bool.and_eq_true_iff.mp h6
  have hm : ∃ o, h.get? (He.cT (He.frT h.get? (reach h.get? n)) lamP).2 = some o ∧ He.emptyTab o = true := by
    split at h8
    · rename_i o ho
      exact ⟨o, ho, h8⟩
    · cases h8
  obtain ⟨o, ho, he⟩ := hm
  refine ⟨fun f hf => List.all_eq_true.mp h1 f hf, fun d hd => ?_, fun b hb => List.all_eq_true.mp h5 b hb, h7, He.frT_none ho he, by rw [ho, He.emptyTab_eq he]⟩
  refine DefA.is_of ?_ (List.all_eq_true.mp h3 d hd)
  obtain ⟨i, hi, ei⟩ := List.mem_iff_getElem.mp hd
  have hg : defsL[i]? = some d := by rw [List.getElem?_eq_getElem hi, ei]
  have e3 := congrArg (fun l : List He.FnW => l[i]?) e2
  simp only [obsL, obsK, valL, List.getElem?_map, hg, Option.map_some] at e3
  exact Option.some.inj e3
def hookL (n : Nat) : PySem.W.Hook where
  α := AlL
  obs := fun s => obsL n s.heap.get?
  val := fun _ => valL
  says := fun _ h => ∃ K : Fr, K.In h ∧ SaysL h K
  of := fun _ _ e => ⟨_, He.frT_in, saysL_of e⟩
  keeps := fun _ _ _ ⟨K, hK, c⟩ k => ⟨K, PySem.W.Frag.In.keeps hK k, ⟨c.facts, c.defs, c.rest, c.hd, c.out, k _ _ c.empty⟩⟩
theorem obsL_eq {n : Nat} {g : Addr → Option Obj} {s : Shared} (h : ∀ a, g a = s.heap.get? a) : obsL n g = (hookL n).obs s := by
  obtain rfl : g = s.heap.get? := funext h
  rfl
/-! ### what the walk asks -/
section
variable {h : Heap} {K : Fr} {mg : Str → Option Value}
theorem SaysL.r (c : SaysL h K) (i : Nat) {b : Bool} (e : (restL K)[i]? = some b := by rfl) : b = true := c.rest b (List.mem_of_getElem? e)
theorem mem_fact {f : He.Fa} (hf : f ∈ gloL.map He.Fa.glo ∨ f ∈ gloL.map He.Fa.keep ∨ f ∈ freeL.map He.Fa.free ∨ f ∈ intL.map (fun p => He.Fa.int p.1 p.2) ∨ f ∈ strL.map (fun p => He.Fa.str p.1 p.2) ∨ f ∈ clsL.map He.Fa.cls ∨ f ∈ clsL.map He.Fa.mkr ∨ f ∈ noatL.map (fun p => He.Fa.noat p.1 p.2) ∨ f ∈ methL.map (fun p => He.Fa.meth p.1 p.2) ∨ f ∈ [He.Fa.glo "MODES", He.Fa.glo "ARRIVALS"]) : f ∈ factL := by
  unfold factL
  simp only [List.mem_append]
  rcases hf with q | q | q | q | q | q | q | q | q | q
  · exact .inl (.inl (.inl (.inl (.inl (.inl (.inl (.inl (.inl q))))))))
  · exact .inl (.inl (.inl (.inl (.inl (.inl (.inl (.inl (.inr q))))))))
  · exact .inl (.inl (.inl (.inl (.inl (.inl (.inl (.inr q)))))))
  · exact .inl (.inl (.inl (.inl (.inl (.inl (.inr q))))))
  · exact .inl (.inl (.inl (.inl (.inl (.inr q)))))
  · exact .inl (.inl (.inl (.inl (.inr q))))
  · exact .inl (.inl (.inl (.inr q)))
  · exact .inl (.inl (.inr q))
  · exact .inl (.inr q)
  · exact .inr q
theorem SaysL.txt (c : SaysL h K) {h' : Heap} (X : K.In h') (G : h'.Ns mainGlobals mg) : Txt K mg where
  glo := fun x hx => He.glo_ok X G (c.facts _ (mem_fact (.inl (List.mem_map.mpr ⟨x, hx, rfl⟩))))
  keep := fun x hx => He.keep_ok (c.facts _ (mem_fact (.inr (.inl (List.mem_map.mpr ⟨x, hx, rfl⟩)))))
  free := fun x hx => He.free_ok X G (c.facts _ (mem_fact (.inr (.inr (.inl (List.mem_map.mpr ⟨x, hx, rfl⟩))))))
  int := fun p hp => He.int_ok X G (c.facts _ (mem_fact (.inr (.inr (.inr (.inl (List.mem_map.mpr ⟨p, hp, rfl⟩)))))))
  str := fun p hp => He.str_ok X G (c.facts _ (mem_fact (.inr (.inr (.inr (.inr (.inl (List.mem_map.mpr ⟨p, hp, rfl⟩))))))))
  cls := fun x hx => He.cls_ok (c.facts _ (mem_fact (.inr (.inr (.inr (.inr (.inr (.inl (List.mem_map.mpr ⟨x, hx, rfl⟩)))))))))
  mkr := fun x hx => He.mkr_ok (c.facts _ (mem_fact (.inr (.inr (.inr (.inr (.inr (.inr (.inl (List.mem_map.mpr ⟨x, hx, rfl⟩))))))))))
  noat := fun p hp => He.noat_ok (c.facts _ (mem_fact (.inr (.inr (.inr (.inr (.inr (.inr (.inr (.inl (List.mem_map.mpr ⟨p, hp, rfl⟩)))))))))))
  meth := fun p hp => He.meth_ok (c.facts _ (mem_fact (.inr (.inr (.inr (.inr (.inr (.inr (.inr (.inr (.inl (List.mem_map.mpr ⟨p, hp, rfl⟩))))))))))))
  defs := c.defs
  over := propAt_ok (c.r 0)
  stall := propAt_ok (c.r 1)
  modes := ⟨He.glo_ok X G (c.facts _ (mem_fact (.inr (.inr (.inr (.inr (.inr (.inr (.inr (.inr (.inr List.mem_cons_self))))))))))), tupAt_ok (c.r 2)⟩
  arrs := ⟨He.glo_ok X G (c.facts _ (mem_fact (.inr (.inr (.inr (.inr (.inr (.inr (.inr (.inr (.inr (List.mem_cons_of_mem _ List.mem_cons_self)))))))))))), tupAt_ok (c.r 3)⟩
  holds := holdsAt_ok (c.r 4)
  pol := of_decide_eq_true (c.r 5)
  pcls := of_decide_eq_true (c.r 6)
  pget := of_decide_eq_true (c.r 7)
  ptak := of_decide_eq_true (c.r 8)
  arro := arrAt_ok (c.r 9)
  pmro := of_decide_eq_true (c.r 10)
theorem SaysL.code (c : SaysL h K) : Lw.codeOf K (d_Searched_from_here.adr K) = some (He.cT K lamP).1 := of_decide_eq_true (c.r 11)
end
end Lw

/-! The head's run. -/
namespace Lw
open PySem PySem.W PySem.Calls PyProof.Rows
abbrev RR : OpenRow := OpenLaw.row PySem.Challenge.rw_latewords_k28_whole_orders_are_enough
abbrev qv : Program := view RR.prog [61]
def loose1 : List PySem.Str := ["_wall", "LatewordsError", "BadSetting", "BadWrite", "BadOrder", "NotPossible", "TooLong", "MOST_EVERY", "MOST_QUICK", "MOST_SIZE", "is_integer", "in_range", "Policy", "Setting", "MODES", "MOST_WRITES", "MOST_LENGTH", "is_write", "check", "split_turns", "normal_order", "rules_of", "with_full", "with_partial", "after_write", "after_clearing", "after_turn"]
def loose2 : List PySem.Str := ["first_parts", "first_quick", "with_quick", "clearings_of", "turn_ends", "best_orders", "least", "most", "WRITE", "TIMER", "ARRIVALS", "MOST_SEGMENTS", "Side", "Draft", "Rules", "Road", "MOST_SEARCHED", "Searched", "search", "_law_bag", "_law_take", "_law_policy", "_law_setting", "_law_words", "_law_lists", "_law_right"]
def looseL : List PySem.Str := loose1 ++ loose2
def obT (s : PySem.W.SharedT) : AlL := obsL 5 (HandSHeadRun.getT s)
theorem obT_eq (s : PySem.W.SharedT) : obT s = (hookL 5).obs s.abs := obsL_eq (HandSHeadRun.getT_eq s)
theorem head_run (w : World) : HandSHeadRun.RunEq RR qv (hookL 5) obT 8000 looseL w := by
  intro os
  kernel_rfl
end Lw

/-! The end. -/
namespace Lw
open PySem PySem.Spec PyProof.Rows L2 LamX
abbrev lamQ : PySem.Str := d_Searched_from_here.qual ++ ".<locals>." ++ "<lambda>"
theorem law_at {h : Heap} {K : Fr} {mg : PySem.Str → Option Value} {fa : Addr} (w : World) (X : K.In h) (c : SaysL h K) (G : h.Ns mainGlobals mg) (hf : mg "law" = some (.ref fa)) :
    LawAtS PySem.Challenge.rw_latewords_k28_whole_orders_are_enough w K CX0 116 63 "_law_script" mg fa h := by
  have T := c.txt X G
  obtain rfl : fa = He.ga K "law" := by
    have := hf.symm.trans T.g_law
    injection this with this
    injection this
  obtain ⟨fd, F⟩ := T.d_law
  refine ⟨fd, [He.cT K lamP], spLaw K [((He.cT K lamP).2, lamQ)], ?_, ?_, ?_, ?_, ?_, ?_⟩
  · intro p hp
    rw [List.mem_singleton.mp hp]
    exact c.empty
  · intro p hp
    rw [List.mem_singleton.mp hp]
    exact c.out
  · intro p hp
    rw [List.mem_singleton.mp hp]
    exact PySem.W.codeHd_of_K X c.hd
  · intro s u
    exact FunD.bindsA (ps := ["_law_script"]) F (fun _ _ _ _ _ _ us hl => match us, hl with | [_], _ => rfl) s [u] rfl
  · intro H a ns hn _ hT hS
    refine ⟨a, ns, rfl, hS, hn, fun p hp => ?_, fun _ => rfl⟩
    rw [List.mem_singleton.mp hp]
    exact TabS.nil (hT _ List.mem_cons_self)
  · intro base X0 G0 TB
    have T0 := c.txt X0 G0
    refine fnok_of F sc_law (fun vs H Q E h => n_law h) (b_law (T := [((He.cT K lamP).2, lamQ)]) T0 (TB _ List.mem_cons_self) c.code List.mem_cons_self fun p hp _ => ?_)
    rw [List.mem_singleton.mp hp]
end Lw
open PySem PySem.W PySem.Calls PyProof.Rows
theorem PySem.Challenge.cw_latewords_k28_whole_orders_are_enough_holds : PySem.Challenge.rw_latewords_k28_whole_orders_are_enough.Holds := by
  w_on; o_law
  refine HandSHeadRun.head_any (r := Lw.RR) (q := Lw.qv) (H := Lw.hookL 5) (ob := Lw.obT) (M := 8000) (loose := Lw.looseL) (d := HandSHeadRun.topDef Lw.RR.prog 61) (kwd := []) Lw.obT_eq
    (by kernel_rfl) (fun s => by kernel_rfl) Lw.head_run (by kernel_rfl) (by kernel_rfl) (by kernel_rfl) (by rfl) (by first | assumption | decide +kernel) (by decide +kernel) ⟨rfl, rfl, rfl, rfl, rfl, by decide +kernel⟩ ?hw ?hc
  case hw => w_witness2
  case hc =>
    refine LamX.walk_ofTsE (l := PySem.Challenge.rw_latewords_k28_whole_orders_are_enough) (n := 63) (k := 116) (x := "_law_script") (CX := fun _ => L2.CX0) rfl (by decide) (by kernel_rfl) ⟨rfl, by decide, by decide⟩ ?F (fun _ _ _ _ _ z => z)
    intro w mg fa h Y G hmg0
    obtain ⟨K, KX, c⟩ := Y
    have hmg : mg ("law" : PySem.Str) = some (.ref fa) := by
      have e : (HandSHeadRun.topDef Lw.RR.prog 61).name = ("law" : PySem.Str) := by kernel_rfl
      rw [← e]
      exact hmg0
    exact ⟨K, KX, Lw.law_at w KX c G hmg⟩

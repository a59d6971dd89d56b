import PyProof.Rows.All
import Wide.All
import OpenK.AllK
import Wide.FinOn
import HandS.ForMost
import HandS.Flow
import HandS.Style
import HandS.Steps
import HandS.Evl
import HandS.IsInst
import HandS.Zip
import HandS.Wide
import HandS.Codes
import HandS.Star
import HandS.TupAny
import PySem.Challenge.RW_smallheld_k12_whole_plain_and_bounds_of
import HandS.Iter
import KE.GoesEnum
import HandS.Lambda
import KE.SortKeyHeap
import HandS.EndTab
import KE.KNestM
set_option Elab.async false
set_option linter.all false
set_option maxRecDepth 100000
set_option maxHeartbeats 4000000
namespace Sh
/-! The mirror: what the program computes, in plain Lean. -/
inductive Rule where
  | plain | hold | few
  deriving DecidableEq
structure Setg where
  rule : Rule
  every : Int
  delay : Int
/-- a line: side 0 is false, side 1 is true -/
structure Ln where
  size : Int
  way : Int
  st : Bool → Setg
structure Pc where
  at_ : Int
  sd : Bool
  n : Int
  ans : Int
structure Sd where
  stock : List (Int × Int)
  out : Int
  known : Int
  small : Int
  come : Int
  taken : Int
  full : Int
  first : Option Int
  long : Int
structure Fl where
  now : Int
  s : Bool → Sd
  air : List Pc
  log : List Pc

def upS (s : Bool → Sd) (b : Bool) (x : Sd) : Bool → Sd := fun c => if c = b then x else s c

def kept (x : Sd) : Int := (x.stock.map Prod.fst).sum

def takeOut (now : Int) : List (Int × Int) → Int → Int → List (Int × Int) × Int
  | [], _, lg => ([], lg)
  | (a, t) :: r, left, lg =>
    if left ≤ 0 then ((a, t) :: r, lg)
    else if a > left then ((a - left, t) :: r, if now - t > lg then now - t else lg)
    else takeOut now r (left - a) (if now - t > lg then now - t else lg)

def sentSd (L : Ln) (now : Int) (x : Sd) (n : Int) : Sd :=
  { x with
    stock := (takeOut now x.stock n x.long).1
    long := (takeOut now x.stock n x.long).2
    out := x.out + n
    small := if 0 < n ∧ n < L.size then x.out + n else x.small
    full := 0
    first := none }

def send (L : Ln) (f : Fl) (b : Bool) (n : Int) : Fl :=
  { now := f.now
    s := upS f.s b (sentSd L f.now (f.s b) n)
    air := f.air ++ [⟨f.now + L.way, b, n, (f.s b).come⟩]
    log := f.log ++ [⟨f.now, b, n, (f.s b).come⟩] }

def lets (L : Ln) (f : Fl) (b : Bool) : Bool :=
  match (L.st b).rule with
  | .hold => decide ((f.s b).out = (f.s b).known)
  | .plain => true
  | .few => decide ((f.s b).small ≤ (f.s b).known)

@[irreducible] def goFull (L : Ln) (b : Bool) : Nat → Fl → Fl
  | 0, f => f
  | k + 1, f => if L.size ≤ kept (f.s b) then goFull L b k (send L f b L.size) else f

@[irreducible] def goSmall (L : Ln) (b : Bool) (f : Fl) : Fl :=
  if 0 < kept (f.s b) ∧ lets L f b = true then send L f b (kept (f.s b)) else f

def letGo (L : Ln) (b : Bool) (f : Fl) : Fl := goSmall L b (goFull L b (kept (f.s b)).toNat f)

def addStock (f : Fl) (b : Bool) (n : Int) : Fl :=
  { f with s := upS f.s b { f.s b with stock := (f.s b).stock ++ [(n, f.now)] } }

def put (L : Ln) (f : Fl) (b : Bool) (n : Int) : Fl := letGo L b (addStock f b n)

def landSd (L : Ln) (now : Int) (x : Sd) (n ans : Int) : Sd :=
  { x with
    known := if ans > x.known then ans else x.known
    come := if 0 < n then x.come + n else x.come
    full := if 0 < n ∧ n = L.size then x.full + 1 else x.full
    first := if 0 < n then (match x.first with | none => some now | some t => some t) else x.first }

def land (L : Ln) (f : Fl) (p : Pc) : Fl :=
  { f with s := upS f.s (!p.sd) (landSd L f.now (f.s (!p.sd)) p.n p.ans) }

@[irreducible] def arrive (L : Ln) (f : Fl) (t : Int) : Fl :=
  (f.air.filter fun p => decide (p.at_ ≤ t)).foldl (land L) { f with now := t, air := f.air.filter fun p => decide (p.at_ > t) }

def begin_ (L : Ln) (f : Fl) (t : Int) : Fl := letGo L true (letGo L false (arrive L f t))

def isDue (L : Ln) (f : Fl) (b : Bool) : Bool :=
  decide ((L.st b).every ≤ (f.s b).full) || (match (f.s b).first with | none => false | some t => decide (t + (L.st b).delay ≤ f.now))

def leave1 (L : Ln) (f : Fl) (b : Bool) : Fl := if isDue L f b = true then send L f b 0 else f
def leave (L : Ln) (f : Fl) : Fl := leave1 L (leave1 L f false) true

inductive Op where
  | write (n : Int) | read (n : Int) | pause (n : Int)
structure Co where
  steps : List Op
  place : Nat
  hist : Nat → Int
  til : Option Int

def Co.prev (c : Co) : Int := if c.place = 0 then 0 else c.hist (c.place - 1)
def Co.ended (c : Co) : Option Int := if c.place = c.steps.length then some c.prev else none
def Co.pass (c : Co) (now : Int) : Co := { c with place := c.place + 1, hist := fun k => if k = c.place then now else c.hist k, til := none }

def doStep (L : Ln) (b : Bool) (f : Fl) (c : Co) : Fl × Co × Bool :=
  match c.steps[c.place]? with
  | some (.write n) => (put L f b n, c.pass f.now, true)
  | some (.read n) =>
    if (f.s b).come - (f.s b).taken < n then (f, c, false)
    else ({ f with s := upS f.s b { f.s b with taken := (f.s b).taken + n } }, c.pass f.now, true)
  | some (.pause n) =>
    if f.now < c.til.getD (f.now + n) then (f, { c with til := some (c.til.getD (f.now + n)) }, false)
    else (f, c.pass f.now, true)
  | none => (f, c, false)

@[irreducible] def goOn (L : Ln) (b : Bool) : Nat → Fl → Co → Fl × Co
  | 0, f, c => (f, c)
  | k + 1, f, c => if (doStep L b f c).2.2 = true then goOn L b k (doStep L b f c).1 (doStep L b f c).2.1 else ((doStep L b f c).1, (doStep L b f c).2.1)
def goAll (L : Ln) (b : Bool) (f : Fl) (c : Co) : Fl × Co := goOn L b (c.steps.length - c.place + 1) f c

structure Sy where
  f : Fl
  c : Bool → Co

def go1 (L : Ln) (b : Bool) (S : Sy) : Sy :=
  { f := (goAll L b S.f (S.c b)).1, c := fun d => if d = b then (goAll L b S.f (S.c b)).2 else S.c d }

def tickIn (L : Ln) (S : Sy) (t : Int) : Sy := ⟨begin_ L S.f t, S.c⟩
def tickMid (L : Ln) (S : Sy) (t : Int) : Sy := go1 L true (go1 L false (tickIn L S t))
def doTick (L : Ln) (S : Sy) (t : Int) : Sy := ⟨leave L (tickMid L S t).f, (tickMid L S t).c⟩

def dues (L : Ln) (f : Fl) (b : Bool) : List Int := match (f.s b).first with | none => [] | some t => [t + (L.st b).delay]
def ticksOf (L : Ln) (f : Fl) : List Int := f.air.map (·.at_) ++ dues L f false ++ dues L f true
def evs (L : Ln) (S : Sy) : List Int := (S.c false).til.toList ++ (S.c true).til.toList ++ ticksOf L S.f

def sd0 : Sd := ⟨[], 0, 0, 0, 0, 0, 0, none, 0⟩
def fl0 : Fl := ⟨0, fun _ => sd0, [], []⟩
def co0 (p : List Op) : Co := ⟨p, 0, fun _ => 0, none⟩
def sy0 (P : Bool → List Op) : Sy := ⟨fl0, fun b => co0 (P b)⟩

def IsMin (t : Int) (l : List Int) : Prop := t ∈ l ∧ ∀ u ∈ l, t ≤ u

inductive Reach (L : Ln) (P : Bool → List Op) : Sy → Prop where
  | start : Reach L P (doTick L (sy0 P) 0)
  | step {S : Sy} {t : Int} : Reach L P S → IsMin t (evs L S) → Reach L P (doTick L S t)

def unread (S : Sy) (b : Bool) : Int := (S.f.s b).come - (S.f.s b).taken
end Sh

namespace Sh
/-! Flow level: counts and the measure. -/
structure LnOk (L : Ln) : Prop where
  size1 : 1 ≤ L.size
  way1 : 1 ≤ L.way
  every1 : ∀ b, 1 ≤ (L.st b).every
  delay0 : ∀ b, 0 ≤ (L.st b).delay

abbrev PosL (l : List (Int × Int)) : Prop := ∀ e ∈ l, 0 < e.1
abbrev amt (l : List (Int × Int)) : Int := (l.map Prod.fst).sum

theorem amt_cons (e : Int × Int) (l) : amt (e :: l) = e.1 + amt l := by simp [amt]
theorem amt_append (l m : List (Int × Int)) : amt (l ++ m) = amt l + amt m := by simp [amt]
theorem amt_nonneg : ∀ {l : List (Int × Int)}, PosL l → 0 ≤ amt l
  | [], _ => by simp [amt]
  | e :: r, h => by
    have h1 := h e (by simp)
    have h2 := amt_nonneg (l := r) fun x hx => h x (by simp [hx])
    rw [amt_cons]; omega
theorem amt_len : ∀ {l : List (Int × Int)}, PosL l → (l.length : Int) ≤ amt l
  | [], _ => by simp [amt]
  | e :: r, h => by
    have h1 := h e (by simp)
    have h2 := amt_len (l := r) fun x hx => h x (by simp [hx])
    rw [amt_cons, List.length_cons]; omega
theorem amt_zero {l : List (Int × Int)} (h : PosL l) (z : amt l ≤ 0) : l = [] := by
  have := amt_len h
  cases l with
  | nil => rfl
  | cons e r => rw [List.length_cons] at this; omega

theorem takeOut_amt {now : Int} : ∀ {l : List (Int × Int)} {n lg : Int}, PosL l → 0 ≤ n → n ≤ amt l → amt (takeOut now l n lg).1 = amt l - n
  | [], n, lg, _, h0, h1 => by simp [takeOut, amt] at *; omega
  | (a, t) :: r, n, lg, hp, h0, h1 => by
    have ha : 0 < a := hp (a, t) (by simp)
    rw [amt_cons] at h1 ⊢
    simp only [takeOut]
    split
    · rw [amt_cons]; simp only at *; omega
    · split
      · rw [amt_cons]; simp only at *; omega
      · rw [takeOut_amt (fun x hx => hp x (by simp [hx])) (by omega) (by simp only at *; omega)]; simp only at *; omega
theorem takeOut_mem {now : Int} : ∀ {l : List (Int × Int)} {n lg : Int} {e : Int × Int}, e ∈ (takeOut now l n lg).1 → PosL l → 0 < e.1 ∧ ∃ e0 ∈ l, e.2 = e0.2
  | [], n, lg, e, h, _ => by simp [takeOut] at h
  | (a, t) :: r, n, lg, e, h, hp => by
    have ha : 0 < a := hp (a, t) (by simp)
    simp only [takeOut] at h
    split at h
    · exact ⟨hp e h, e, h, rfl⟩
    · split at h
      · rcases List.mem_cons.mp h with rfl | h
        · exact ⟨by simp only; omega, (a, t), by simp, rfl⟩
        · exact ⟨hp e (by simp [h]), e, by simp [h], rfl⟩
      · obtain ⟨h1, e0, h2, h3⟩ := takeOut_mem h (fun x hx => hp x (by simp [hx]))
        exact ⟨h1, e0, by simp [h2], h3⟩
/-- behind the old part only the new one's ticks are left -/
theorem takeOut_new {now : Int} : ∀ {o w : List (Int × Int)} {n lg : Int} {e : Int × Int}, e ∈ (takeOut now (o ++ w) n lg).1 → PosL (o ++ w) → amt o ≤ n → (amt o < n ∨ o = []) → ∃ e0 ∈ w, e.2 = e0.2
  | [], w, n, lg, e, h, hp, _, _ => (takeOut_mem h hp).2
  | (a, t) :: r, w, n, lg, e, h, hp, h1, h2 => by
    have ha : 0 < a := hp (a, t) (by simp)
    have hpr : PosL (r ++ w) := fun x hx => hp x (by simp only [List.cons_append, List.mem_cons]; exact .inr hx)
    have hr : 0 ≤ amt r := amt_nonneg fun x hx => hpr x (by simp [hx])
    rw [amt_cons] at h1 h2
    simp only [List.cons_append, takeOut] at h
    simp only at h1 h2
    rw [if_neg (by omega)] at h
    have h3 : a + amt r < n := by
      rcases h2 with h2 | h2
      · exact h2
      · cases h2
    rw [if_neg (by omega)] at h
    exact takeOut_new h hpr (by omega) (by omega)
theorem takeOut_long {now B : Int} : ∀ {l : List (Int × Int)} {n lg : Int}, lg ≤ B → (∀ e ∈ l, now - e.2 ≤ B) → (takeOut now l n lg).2 ≤ B
  | [], n, lg, h, _ => by simpa [takeOut] using h
  | (a, t) :: r, n, lg, h, hb => by
    have h1 : now - t ≤ B := hb (a, t) (by simp)
    simp only [takeOut]
    split
    · exact h
    · split
      · simp only; split <;> omega
      · exact takeOut_long (by split <;> omega) fun x hx => hb x (by simp [hx])
theorem takeOut_long_le {now : Int} : ∀ {l : List (Int × Int)} {n lg : Int}, lg ≤ (takeOut now l n lg).2
  | [], n, lg => by simp [takeOut]
  | (a, t) :: r, n, lg => by
    simp only [takeOut]
    split
    · exact Int.le_refl _
    · split
      · simp only; split <;> omega
      · exact Int.le_trans (by split <;> omega) takeOut_long_le
theorem takeOut_zero {now lg : Int} {l : List (Int × Int)} : takeOut now l 0 lg = (l, lg) := by
  cases l with
  | nil => rfl
  | cons e r => obtain ⟨a, t⟩ := e; simp [takeOut]

/-! ### the measure -/
def phS (x : Sd) : Int := 4 * kept x + (if x.first = none then 0 else 2)
def phA (l : List Pc) : Int := (l.map fun p => if 0 < p.n then (3 : Int) else 1).sum
def phi (f : Fl) : Int := phS (f.s false) + phS (f.s true) + phA f.air
theorem phA_append (l m : List Pc) : phA (l ++ m) = phA l + phA m := by simp [phA]
theorem phA_cons (p : Pc) (l : List Pc) : phA (p :: l) = (if 0 < p.n then 3 else 1) + phA l := by simp [phA]
theorem phA_len : ∀ l : List Pc, (l.length : Int) ≤ phA l
  | [] => by simp [phA]
  | p :: r => by
    have := phA_len r
    rw [phA_cons, List.length_cons]
    split <;> omega
theorem upS_same {s : Bool → Sd} {b : Bool} {x : Sd} : upS s b x b = x := by simp [upS]
theorem upS_ne {s : Bool → Sd} {b c : Bool} {x : Sd} (h : c ≠ b) : upS s b x c = s c := by simp [upS, h]
theorem upS_not {s : Bool → Sd} {b : Bool} {x : Sd} : upS s b x (!b) = s (!b) := upS_ne (by cases b <;> decide)
theorem upS_not' {s : Bool → Sd} {b : Bool} {x : Sd} : upS s (!b) x b = s b := upS_ne (by cases b <;> decide)
theorem phi_of (f : Fl) (b : Bool) : phi f = phS (f.s b) + phS (f.s (!b)) + phA f.air := by
  cases b <;> simp [phi] <;> omega

/-- what the walk needs: amounts are positive, a full piece that came is noted, what is to come is bounded -/
structure Ok (M : Int) (f : Fl) : Prop where
  pos : ∀ b, PosL (f.s b).stock
  full : ∀ b, (f.s b).first = none → (f.s b).full ≤ 0
  lid : (f.log.length : Int) + phi f ≤ M
theorem kept_eq (x : Sd) : kept x = amt x.stock := rfl
theorem Ok.kept0 {M : Int} {f : Fl} (h : Ok M f) (b : Bool) : 0 ≤ kept (f.s b) := amt_nonneg (h.pos b)
theorem phS_nonneg {x : Sd} (h : PosL x.stock) : 0 ≤ phS x := by
  have := amt_nonneg h
  unfold phS; rw [kept_eq]; split <;> omega
theorem Ok.phi0 {M : Int} {f : Fl} (h : Ok M f) : 0 ≤ phi f := by
  have h1 := phS_nonneg (h.pos false)
  have h2 := phS_nonneg (h.pos true)
  have h3 := phA_len f.air
  unfold phi; omega
theorem Ok.stock {M : Int} {f : Fl} (h : Ok M f) (b : Bool) : ((f.s b).stock.length : Int) ≤ M := by
  have h1 := phS_nonneg (h.pos (!b))
  have h3 := phA_len f.air
  have h4 := h.lid
  have h5 := amt_len (h.pos b)
  have h6 := amt_nonneg (h.pos b)
  rw [phi_of f b] at h4
  have h7 : 4 * amt (f.s b).stock ≤ phS (f.s b) := by unfold phS; rw [kept_eq]; split <;> omega
  omega
theorem Ok.kept_le {M : Int} {f : Fl} (h : Ok M f) (b : Bool) : kept (f.s b) ≤ M := by
  have h1 := phS_nonneg (h.pos (!b))
  have h3 := phA_len f.air
  have h4 := h.lid
  have h6 := amt_nonneg (h.pos b)
  rw [phi_of f b] at h4
  have h7 : 4 * amt (f.s b).stock ≤ phS (f.s b) := by unfold phS; rw [kept_eq]; split <;> omega
  rw [kept_eq]
  omega
theorem Ok.airLen {M : Int} {f : Fl} (h : Ok M f) : (f.air.length : Int) ≤ M := by
  have h1 := phS_nonneg (h.pos false)
  have h2 := phS_nonneg (h.pos true)
  have h3 := phA_len f.air
  have h4 := h.lid
  unfold phi at h4; omega
theorem Ok.logLen {M : Int} {f : Fl} (h : Ok M f) : (f.log.length : Int) ≤ M := by
  have := h.phi0
  have := h.lid
  omega
theorem Ok.mono {M M' : Int} {f : Fl} (h : Ok M f) (e : M ≤ M') : Ok M' f := ⟨h.pos, h.full, by have := h.lid; omega⟩

section
variable {L : Ln} {f : Fl} {b c : Bool} {n M : Int}
theorem send_same : (send L f b n).s b = sentSd L f.now (f.s b) n := upS_same
theorem send_ne (h : c ≠ b) : (send L f b n).s c = f.s c := upS_ne h
theorem kept_sent {x : Sd} {now : Int} (hp : PosL x.stock) (h0 : 0 ≤ n) (h1 : n ≤ kept x) : kept (sentSd L now x n) = kept x - n := takeOut_amt hp h0 h1
theorem send_phi (hp : PosL (f.s b).stock) (h0 : 0 ≤ n) (h1 : n ≤ kept (f.s b)) (h : 0 < n ∨ (f.s b).first ≠ none) : phi (send L f b n) + 1 ≤ phi f := by
  have hk := kept_sent (L := L) (now := f.now) hp h0 h1
  rw [phi_of _ b, phi_of f b, send_same, send_ne (c := !b) (by cases b <;> decide)]
  have e1 : phS (sentSd L f.now (f.s b) n) = 4 * (kept (f.s b) - n) := by
    unfold phS
    rw [hk]
    simp [sentSd]
  have e2 : phA (send L f b n).air = phA f.air + (if 0 < n then 3 else 1) := by
    show phA (f.air ++ [_]) = _
    rw [phA_append, phA_cons]
    simp [phA]
  rw [e1, e2]
  unfold phS
  rcases h with h | h
  · rw [if_pos h]; split <;> omega
  · rw [if_neg h]; split <;> omega
theorem send_ok (ok : Ok M f) (h0 : 0 ≤ n) (h1 : n ≤ kept (f.s b)) (h : 0 < n ∨ (f.s b).first ≠ none) : Ok M (send L f b n) := by
  refine ⟨fun c => ?_, fun c => ?_, ?_⟩
  · by_cases hc : c = b
    · subst hc; rw [send_same]; exact fun e he => (takeOut_mem he (ok.pos c)).1
    · rw [send_ne hc]; exact ok.pos c
  · by_cases hc : c = b
    · subst hc; rw [send_same]; intro _; exact Int.le_refl _
    · rw [send_ne hc]; exact ok.full c
  · have h2 := send_phi (L := L) (ok.pos b) h0 h1 h
    have h3 := ok.lid
    have h4 : ((send L f b n).log.length : Int) = f.log.length + 1 := by simp [send]
    omega

/-! goFull -/
theorem goFull_ind (P : Fl → Prop) (hs : ∀ g, P g → L.size ≤ kept (g.s b) → P (send L g b L.size)) : ∀ (k : Nat) (f : Fl), P f → P (goFull L b k f)
  | 0, f, h => by unfold goFull; exact h
  | k + 1, f, h => by
    unfold goFull
    split
    · exact goFull_ind P hs k _ (hs f h ‹_›)
    · exact h
theorem goFull_less (hL : LnOk L) : ∀ (k : Nat) (f : Fl), PosL (f.s b).stock → kept (f.s b) ≤ k → kept ((goFull L b k f).s b) < L.size
  | 0, f, _, h => by
    have := hL.size1
    unfold goFull; omega
  | k + 1, f, hp, h => by
    unfold goFull
    have h1 := hL.size1
    split
    · refine goFull_less hL k _ ?_ ?_
      · rw [send_same]; exact fun e he => (takeOut_mem he hp).1
      · rw [send_same, kept_sent hp (by omega) ‹_›]; omega
    · omega
/-- more fuel changes nothing -/
theorem goFull_fuel (hL : LnOk L) : ∀ (k j : Nat) (f : Fl), PosL (f.s b).stock → kept (f.s b) ≤ k → kept (f.s b) ≤ j → goFull L b k f = goFull L b j f
  | 0, 0, f, _, _, _ => rfl
  | 0, j + 1, f, _, h, _ => by
    have := hL.size1
    unfold goFull
    rw [if_neg (by omega)]
  | k + 1, 0, f, _, _, h => by
    have := hL.size1
    unfold goFull
    rw [if_neg (by omega)]
  | k + 1, j + 1, f, hp, h, h' => by
    have h1 := hL.size1
    unfold goFull
    split
    · rename_i q
      have e : kept ((send L f b L.size).s b) = kept (f.s b) - L.size := by rw [send_same, kept_sent hp (by omega) q]
      refine goFull_fuel hL k j _ ?_ ?_ ?_
      · rw [send_same]; exact fun e he => (takeOut_mem he hp).1
      · omega
      · omega
    · rfl
theorem goFull_ok (hL : LnOk L) {k : Nat} (ok : Ok M f) : Ok M (goFull L b k f) :=
  goFull_ind (fun g => Ok M g) (fun g h q => send_ok h (by have := hL.size1; omega) q (.inl (by have := hL.size1; omega))) k f ok
theorem goSmall_ok (ok : Ok M f) : Ok M (goSmall L b f) := by
  unfold goSmall
  split
  · rename_i q; exact send_ok ok (by omega) (by omega) (.inl q.1)
  · exact ok
theorem letGo_ok (hL : LnOk L) (ok : Ok M f) : Ok M (letGo L b f) := goSmall_ok (goFull_ok hL ok)
theorem goSmall_less (hL : LnOk L) (hp : PosL (f.s b).stock) (h : kept (f.s b) < L.size) : kept ((goSmall L b f).s b) < L.size := by
  have := hL.size1
  unfold goSmall
  split
  · rename_i q; rw [send_same, kept_sent hp (by omega) (by omega)]; omega
  · exact h
theorem addStock_same : (addStock f b n).s b = { f.s b with stock := (f.s b).stock ++ [(n, f.now)] } := upS_same
theorem addStock_ne (h : c ≠ b) : (addStock f b n).s c = f.s c := upS_ne h
theorem kept_add : kept ((addStock f b n).s b) = kept (f.s b) + n := by
  rw [addStock_same]
  show amt (_ ++ [_]) = _
  rw [amt_append]
  simp [amt, kept]
theorem phi_add : phi (addStock f b n) = phi f + 4 * n := by
  rw [phi_of _ b, phi_of f b]
  unfold phS
  rw [kept_add, addStock_ne (c := !b) (by cases b <;> decide)]
  have : ((addStock f b n).s b).first = (f.s b).first := by rw [addStock_same]
  rw [this]
  show _ + phA f.air = _
  omega
theorem addStock_ok (ok : Ok (M - 4 * n) f) (h : 0 < n) : Ok M (addStock f b n) := by
  refine ⟨fun c => ?_, fun c => ?_, ?_⟩
  · by_cases hc : c = b
    · subst hc; rw [addStock_same]
      intro e he
      rcases List.mem_append.mp he with he | he
      · exact ok.pos c e he
      · rw [List.mem_singleton.mp he]; exact h
    · rw [addStock_ne hc]; exact ok.pos c
  · by_cases hc : c = b
    · subst hc; rw [addStock_same]; exact ok.full c
    · rw [addStock_ne hc]; exact ok.full c
  · rw [phi_add]
    have := ok.lid
    show (f.log.length : Int) + _ ≤ _
    omega
theorem put_ok (hL : LnOk L) (ok : Ok (M - 4 * n) f) (h : 0 < n) : Ok M (put L f b n) := letGo_ok hL (addStock_ok ok h)

/-! landing -/
theorem land_phi {p : Pc} {A : List Pc} : phi { land L f p with air := A } + 1 ≤ phi { f with air := p :: A } := by
  rw [phi_of _ (!p.sd), phi_of { f with air := p :: A } (!p.sd), phA_cons]
  show phS (upS f.s (!p.sd) _ (!p.sd)) + phS (upS f.s (!p.sd) _ (!!p.sd)) + phA A + 1 ≤ _
  rw [upS_same, upS_not]
  show _ ≤ phS (f.s (!p.sd)) + phS (f.s (!!p.sd)) + _
  have e : kept (landSd L f.now (f.s (!p.sd)) p.n p.ans) = kept (f.s (!p.sd)) := rfl
  unfold phS
  rw [e]
  by_cases h : 0 < p.n
  · rw [if_pos h]
    have e2 : (landSd L f.now (f.s (!p.sd)) p.n p.ans).first ≠ none := by
      simp only [landSd, if_pos h]
      cases (f.s (!p.sd)).first <;> simp
    rw [if_neg e2]
    split <;> omega
  · rw [if_neg h]
    have e2 : (landSd L f.now (f.s (!p.sd)) p.n p.ans).first = (f.s (!p.sd)).first := by simp only [landSd, if_neg h]
    rw [e2]
    omega
theorem land_ok {p : Pc} {A : List Pc} (ok : Ok M { f with air := p :: A }) : Ok M { land L f p with air := A } := by
  refine ⟨fun c => ?_, fun c => ?_, ?_⟩
  · show PosL (upS f.s (!p.sd) _ c).stock
    by_cases hc : c = !p.sd
    · subst hc; rw [upS_same]; exact ok.pos (!p.sd)
    · rw [upS_ne hc]; exact ok.pos c
  · show (upS f.s (!p.sd) _ c).first = none → (upS f.s (!p.sd) _ c).full ≤ 0
    by_cases hc : c = !p.sd
    · subst hc; rw [upS_same]
      have q := ok.full (!p.sd)
      by_cases h : 0 < p.n
      · simp only [landSd, if_pos h]
        cases (f.s (!p.sd)).first <;> simp
      · simp only [landSd, if_neg h]
        rw [if_neg (fun z => h z.1)]
        exact q
    · rw [upS_ne hc]; exact ok.full c
  · have h1 := land_phi (L := L) (f := f) (p := p) (A := A)
    have h2 := ok.lid
    show (f.log.length : Int) + _ ≤ _
    have h3 : (f.log.length : Int) + phi { f with air := p :: A } ≤ M := h2
    omega
theorem phA_perm {A B : List Pc} (h : A.Perm B) : phA A = phA B := by
  induction h with
  | nil => rfl
  | cons x _ ih => rw [phA_cons, phA_cons, ih]
  | swap x y l => simp only [phA_cons]; omega
  | trans _ _ h1 h2 => rw [h1, h2]
theorem filter_perm {α : Type} (p : α → Bool) : ∀ l : List α, (l.filter p ++ l.filter (fun x => !p x)).Perm l
  | [] => .nil
  | x :: r => by
    have ih := filter_perm p r
    by_cases h : p x = true
    · rw [List.filter_cons_of_pos h, List.filter_cons_of_neg (by simp [h])]
      exact ih.cons x
    · rw [List.filter_cons_of_neg h, List.filter_cons_of_pos (by simp [h])]
      exact (List.perm_middle).trans (ih.cons x)
theorem landing_ind (P : Fl → Prop) (hl : ∀ (g : Fl) (p : Pc) (A : List Pc), g.now = f.now → p.at_ ≤ g.now → P { g with air := p :: A } → P { land L g p with air := A }) :
    ∀ (l keep : List Pc) (g : Fl), g.now = f.now → (∀ p ∈ l, p.at_ ≤ f.now) → P { g with air := l ++ keep } → P (l.foldl (land L) { g with air := keep })
  | [], keep, g, _, _, h => h
  | p :: r, keep, g, e, hp, h => by
    have h1 := hl g p (r ++ keep) e (by rw [e]; exact hp p (by simp)) h
    exact landing_ind P hl r keep (land L g p) e (fun q hq => hp q (by simp [hq])) h1
theorem arrive_ind (P : Fl → Prop) (t : Int) (hperm : ∀ (g : Fl) (A B : List Pc), A.Perm B → P { g with air := A } → P { g with air := B })
    (hl : ∀ (g : Fl) (p : Pc) (A : List Pc), g.now = t → p.at_ ≤ t → P { g with air := p :: A } → P { land L g p with air := A })
    (h : P { f with now := t }) : P (arrive L f t) := by
  unfold arrive
  refine landing_ind (L := L) (f := { f with now := t }) P (fun g p A e hp => hl g p A e (by rw [e] at hp; exact hp)) _ _ { f with now := t } rfl (fun p hp => of_decide_eq_true (List.mem_filter.mp hp).2) ?_
  refine hperm { f with now := t } f.air _ ?_ h
  have e : (fun p : Pc => decide (p.at_ > t)) = fun p => !(decide (p.at_ ≤ t)) := by
    funext p
    by_cases q : p.at_ ≤ t
    · simp [q]
    · simp [q]; omega
  rw [e]
  exact (filter_perm _ _).symm
theorem arrive_ok (ok : Ok M f) (t : Int) : Ok M (arrive L f t) := by
  refine arrive_ind (fun g => Ok M g) t (fun g A B hp h => ⟨h.pos, h.full, ?_⟩) (fun g p A _ _ h => land_ok h) ⟨ok.pos, ok.full, ok.lid⟩
  have := h.lid
  simp only [phi] at this ⊢
  rw [← phA_perm hp]
  exact this
theorem begin_ok (hL : LnOk L) (ok : Ok M f) (t : Int) : Ok M (begin_ L f t) := letGo_ok hL (letGo_ok hL (arrive_ok ok t))
theorem isDue_first (hL : LnOk L) (ok : Ok M f) (h : isDue L f b = true) : (f.s b).first ≠ none := by
  intro e
  have h1 := ok.full b e
  have h2 := hL.every1 b
  unfold isDue at h
  rw [e] at h
  simp at h
  omega
theorem leave1_ok (hL : LnOk L) (ok : Ok M f) : Ok M (leave1 L f b) := by
  unfold leave1
  split
  · rename_i h; exact send_ok ok (Int.le_refl _) (ok.kept0 b) (.inr (isDue_first hL ok h))
  · exact ok
theorem leave_ok (hL : LnOk L) (ok : Ok M f) : Ok M (leave L f) := leave1_ok hL (leave1_ok hL ok)
end
end Sh

namespace Sh
/-! System level: the measure falls in each tick. -/
def cost : Op → Int
  | .write n => 4 * n
  | .read _ => 0
  | .pause _ => 1
def OpOk : Op → Prop
  | .write n => 0 < n
  | .read n => 0 < n
  | .pause n => 0 ≤ n
def rem (c : Co) : Int := ((c.steps.drop c.place).map cost).sum
theorem cost_nonneg {o : Op} (h : OpOk o) : 0 ≤ cost o := by
  cases o <;> simp only [cost, OpOk] at * <;> omega
theorem costs_nonneg : ∀ {l : List Op}, (∀ o ∈ l, OpOk o) → 0 ≤ (l.map cost).sum
  | [], _ => by simp
  | o :: r, h => by
    have h1 := cost_nonneg (h o (by simp))
    have h2 := costs_nonneg (l := r) fun x hx => h x (by simp [hx])
    rw [List.map_cons, List.sum_cons]; omega
structure CoOk (c : Co) : Prop where
  ops : ∀ o ∈ c.steps, OpOk o
  le : c.place ≤ c.steps.length
  til : ∀ u, c.til = some u → ∃ n, c.steps[c.place]? = some (.pause n)
theorem rem_nonneg {c : Co} (h : CoOk c) : 0 ≤ rem c := costs_nonneg fun o ho => h.ops o (List.mem_of_mem_drop ho)
theorem rem_pass {c : Co} {o : Op} {t : Int} (h : c.steps[c.place]? = some o) : rem (c.pass t) = rem c - cost o := by
  unfold rem Co.pass
  obtain ⟨h1, h2⟩ := List.getElem?_eq_some_iff.mp h
  have e : c.steps.drop c.place = o :: c.steps.drop (c.place + 1) := by rw [List.drop_eq_getElem_cons h1, h2]
  simp only
  rw [e, List.map_cons, List.sum_cons]
  omega
theorem pass_ok {c : Co} {o : Op} {t : Int} (h : CoOk c) (e : c.steps[c.place]? = some o) : CoOk (c.pass t) := by
  obtain ⟨h1, _⟩ := List.getElem?_eq_some_iff.mp e
  exact ⟨h.ops, h1, fun u hu => by cases hu⟩

/-- first of both sides as before -/
def SameF (f g : Fl) : Prop := ∀ b, (g.s b).first = (f.s b).first
theorem SameF.refl (f : Fl) : SameF f f := fun _ => rfl
/-- from weight m to weight m': less, or first of both sides as before -/
def Dn (m : Int) (f : Fl) (m' : Int) (g : Fl) : Prop := m' < m ∨ (m' ≤ m ∧ SameF f g)
theorem Dn.trans {m m1 m2 : Int} {f f1 f2 : Fl} (a : Dn m f m1 f1) (b : Dn m1 f1 m2 f2) : Dn m f m2 f2 := by
  rcases a with a | ⟨a, a'⟩ <;> rcases b with b | ⟨b, b'⟩
  · exact .inl (by omega)
  · exact .inl (by omega)
  · exact .inl (by omega)
  · exact .inr ⟨by omega, fun c => (b' c).trans (a' c)⟩
theorem Dn.le {m m1 : Int} {f f1 : Fl} (a : Dn m f m1 f1) : m1 ≤ m := by
  rcases a with a | ⟨a, _⟩ <;> omega

section
variable {L : Ln} {f : Fl} {b d : Bool} {n M : Int} {c : Co}
theorem goFull_dn (hL : LnOk L) : ∀ (k : Nat) (f : Fl), (∀ b, PosL (f.s b).stock) → Dn (phi f) f (phi (goFull L b k f)) (goFull L b k f)
  | 0, f, _ => by unfold goFull; exact .inr ⟨Int.le_refl _, .refl _⟩
  | k + 1, f, hp => by
    unfold goFull
    have h1 := hL.size1
    split
    · rename_i q
      have h2 := send_phi (L := L) (hp b) (show 0 ≤ L.size by omega) q (.inl (by omega))
      have h3 := goFull_dn hL k (send L f b L.size) fun d => by
        by_cases e : d = b
        · subst e; rw [send_same]; exact fun x hx => (takeOut_mem hx (hp d)).1
        · rw [send_ne e]; exact hp d
      exact .inl (by have := h3.le; omega)
    · exact .inr ⟨Int.le_refl _, .refl _⟩
theorem letGo_dn (hL : LnOk L) (ok : Ok M f) : Dn (phi f) f (phi (letGo L b f)) (letGo L b f) := by
  have h1 := goFull_dn hL (b := b) (kept (f.s b)).toNat f ok.pos
  refine h1.trans ?_
  have ok1 := goFull_ok (b := b) hL (k := (kept (f.s b)).toNat) ok
  unfold letGo goSmall
  split
  · rename_i q
    have := send_phi (L := L) (ok1.pos b) (Int.le_of_lt q.1) (Int.le_refl _) (.inl q.1)
    exact .inl (by omega)
  · exact .inr ⟨Int.le_refl _, .refl _⟩
theorem put_dn (hL : LnOk L) (ok : Ok (M - 4 * n) f) (h : 0 < n) : Dn (phi f + 4 * n) f (phi (put L f b n)) (put L f b n) := by
  have h1 := letGo_dn (b := b) hL (addStock_ok (b := b) ok h)
  have h2 : Dn (phi f + 4 * n) f (phi (addStock f b n)) (addStock f b n) := .inr ⟨by rw [phi_add]; exact Int.le_refl _, fun c => by
    by_cases e : c = b
    · subst e; rw [addStock_same]
    · rw [addStock_ne e]⟩
  exact h2.trans h1
/-- one step: Ok, weight -/
theorem doStep_ok (hL : LnOk L) (hc : CoOk c) (ok : Ok (M - rem c) f) : Ok (M - rem (doStep L b f c).2.1) (doStep L b f c).1 ∧ CoOk (doStep L b f c).2.1 ∧
    Dn (phi f + rem c) f (phi (doStep L b f c).1 + rem (doStep L b f c).2.1) (doStep L b f c).1 := by
  unfold doStep
  split
  · rename_i n e
    have hn : 0 < n := hc.ops _ (List.mem_of_getElem? e)
    have hr := rem_pass (t := f.now) e
    have hr' : rem (c.pass f.now) = rem c - 4 * n := hr
    refine ⟨?_, pass_ok hc e, ?_⟩
    · refine put_ok hL (ok.mono ?_) hn
      rw [hr']; omega
    · show Dn _ _ (phi (put L f b n) + rem (c.pass f.now)) _
      have ok' : Ok (M - rem c + 4 * n - 4 * n) f := ok.mono (by omega)
      rw [hr']
      rcases put_dn (b := b) hL ok' hn with h | ⟨h, h'⟩
      · exact .inl (by omega)
      · exact .inr ⟨by omega, h'⟩
  · rename_i n e
    have hr : rem (c.pass f.now) = rem c - 0 := rem_pass (t := f.now) e
    split
    · exact ⟨ok, hc, .inr ⟨Int.le_refl _, .refl _⟩⟩
    · have hs : ∀ d, (upS f.s b { f.s b with taken := (f.s b).taken + n } d).stock = (f.s d).stock ∧ (upS f.s b { f.s b with taken := (f.s b).taken + n } d).first = (f.s d).first ∧ (upS f.s b { f.s b with taken := (f.s b).taken + n } d).full = (f.s d).full := fun d => by
        by_cases q : d = b
        · subst q; rw [upS_same]; exact ⟨rfl, rfl, rfl⟩
        · rw [upS_ne q]; exact ⟨rfl, rfl, rfl⟩
      have hph : phi { f with s := upS f.s b { f.s b with taken := (f.s b).taken + n } } = phi f := by
        simp only [phi, phS, kept]
        rw [(hs false).1, (hs true).1, (hs false).2.1, (hs true).2.1]
      refine ⟨⟨fun d => ?_, fun d => ?_, ?_⟩, pass_ok hc e, .inr ⟨?_, fun d => (hs d).2.1⟩⟩
      · show PosL (upS f.s b _ d).stock
        rw [(hs d).1]; exact ok.pos d
      · show (upS f.s b _ d).first = none → (upS f.s b _ d).full ≤ 0
        rw [(hs d).2.1, (hs d).2.2]; exact ok.full d
      · rw [hph, hr]; have := ok.lid; show (f.log.length : Int) + _ ≤ _; omega
      · show phi _ + rem (c.pass f.now) ≤ _
        rw [hph, hr]; omega
  · rename_i n e
    have hr : rem (c.pass f.now) = rem c - 1 := rem_pass (t := f.now) e
    split
    · exact ⟨ok, ⟨hc.ops, hc.le, fun u _ => ⟨n, e⟩⟩, .inr ⟨Int.le_refl _, .refl _⟩⟩
    · refine ⟨ok.mono (by rw [hr]; omega), pass_ok hc e, .inl ?_⟩
      show phi f + rem (c.pass f.now) < _
      rw [hr]; omega
  · exact ⟨ok, hc, .inr ⟨Int.le_refl _, .refl _⟩⟩
theorem goOn_ok (hL : LnOk L) : ∀ (k : Nat) (f : Fl) (c : Co), CoOk c → Ok (M - rem c) f → Ok (M - rem (goOn L b k f c).2) (goOn L b k f c).1 ∧ CoOk (goOn L b k f c).2 ∧
    Dn (phi f + rem c) f (phi (goOn L b k f c).1 + rem (goOn L b k f c).2) (goOn L b k f c).1
  | 0, f, c, hc, ok => by unfold goOn; exact ⟨ok, hc, .inr ⟨Int.le_refl _, .refl _⟩⟩
  | k + 1, f, c, hc, ok => by
    obtain ⟨h1, h2, h3⟩ := doStep_ok (b := b) hL hc ok
    unfold goOn
    split
    · obtain ⟨g1, g2, g3⟩ := goOn_ok hL k _ _ h2 h1
      exact ⟨g1, g2, h3.trans g3⟩
    · exact ⟨h1, h2, h3⟩

structure SyOk (M : Int) (S : Sy) : Prop where
  co : ∀ b, CoOk (S.c b)
  ok : Ok (M - rem (S.c false) - rem (S.c true)) S.f
def psi (S : Sy) : Int := phi S.f + rem (S.c false) + rem (S.c true)
theorem psi_of (S : Sy) (b : Bool) : psi S = phi S.f + rem (S.c b) + rem (S.c (!b)) := by
  cases b <;> simp [psi] <;> omega
variable {S : Sy} {t : Int}
theorem SyOk.at (h : SyOk M S) (b : Bool) : Ok (M - rem (S.c (!b)) - rem (S.c b)) S.f := by
  cases b
  · exact h.ok.mono (by simp only [Bool.not_false]; omega)
  · exact h.ok.mono (by simp only [Bool.not_true]; omega)
theorem go1_c : (go1 L b S).c b = (goAll L b S.f (S.c b)).2 := by simp [go1]
theorem go1_ne (h : d ≠ b) : (go1 L b S).c d = S.c d := by simp [go1, h]
theorem go1_ok (hL : LnOk L) (h : SyOk M S) : SyOk M (go1 L b S) ∧ Dn (psi S) S.f (psi (go1 L b S)) (go1 L b S).f := by
  obtain ⟨g1, g2, g3⟩ := goOn_ok (b := b) (M := M - rem (S.c (!b))) hL ((S.c b).steps.length - (S.c b).place + 1) S.f (S.c b) (h.co b) (h.at b)
  have en : (go1 L b S).c (!b) = S.c (!b) := go1_ne (by cases b <;> decide)
  refine ⟨⟨fun d => ?_, ?_⟩, ?_⟩
  · by_cases q : d = b
    · subst q; rw [go1_c]; exact g2
    · rw [go1_ne q]; exact h.co d
  · have g1' : Ok (M - rem (S.c (!b)) - rem ((go1 L b S).c b)) (go1 L b S).f := by rw [go1_c]; exact g1
    rw [← en] at g1'
    refine g1'.mono ?_
    cases b
    · simp only [Bool.not_false]; omega
    · simp only [Bool.not_true]; omega
  · rw [psi_of S b, psi_of (go1 L b S) b, en, go1_c]
    have g3' : Dn (phi S.f + rem (S.c b)) S.f (phi (go1 L b S).f + rem (goAll L b S.f (S.c b)).2) (go1 L b S).f := g3
    rcases g3' with g | ⟨g, g'⟩
    · exact .inl (by omega)
    · exact .inr ⟨by omega, g'⟩
theorem lands_phi : ∀ (l keep : List Pc) (g : Fl), phi (l.foldl (land L) { g with air := keep }) + l.length ≤ phi { g with air := l ++ keep }
  | [], keep, g => by simp
  | p :: r, keep, g => by
    have h1 : phi ⟨(land L g p).now, (land L g p).s, r ++ keep, (land L g p).log⟩ + 1 ≤ phi ⟨g.now, g.s, p :: (r ++ keep), g.log⟩ := land_phi (L := L) (f := g) (p := p) (A := r ++ keep)
    have h2 := lands_phi r keep (land L g p)
    rw [List.foldl_cons, List.length_cons]
    show phi (r.foldl (land L) ⟨(land L g p).now, (land L g p).s, keep, (land L g p).log⟩) + ((r.length + 1 : Nat) : Int) ≤ phi ⟨g.now, g.s, p :: (r ++ keep), g.log⟩
    omega
theorem arrive_phi (f : Fl) (t : Int) : phi (arrive L f t) + (f.air.filter fun p => decide (p.at_ ≤ t)).length ≤ phi f := by
  have h1 := lands_phi (L := L) (f.air.filter fun p => decide (p.at_ ≤ t)) (f.air.filter fun p => decide (p.at_ > t)) { f with now := t }
  have e : (fun p : Pc => decide (p.at_ > t)) = fun p => !(decide (p.at_ ≤ t)) := by
    funext p
    by_cases q : p.at_ ≤ t
    · simp [q]
    · simp [q]; omega
  have h2 : phi { f with now := t, air := f.air.filter (fun p => decide (p.at_ ≤ t)) ++ f.air.filter (fun p => decide (p.at_ > t)) } = phi f := by
    unfold phi
    simp only
    rw [e, phA_perm (filter_perm _ _)]
  unfold arrive
  simp only at h1 h2 ⊢
  omega
theorem land_first_eq (g : Fl) (p : Pc) (h : ¬ 0 < p.n) (c : Bool) : ((land L g p).s c).first = (g.s c).first := by
  show (upS g.s (!p.sd) _ c).first = _
  by_cases q : c = !p.sd
  · subst q; rw [upS_same]; simp only [landSd, if_neg h]
  · rw [upS_ne q]
theorem arrive_dn (f : Fl) (t : Int) : Dn (phi f) f (phi (arrive L f t)) (arrive L f t) := by
  have h := arrive_phi (L := L) f t
  cases e : (f.air.filter fun p => decide (p.at_ ≤ t)) with
  | nil =>
    rw [e] at h
    refine .inr ⟨by simpa using h, ?_⟩
    unfold arrive
    rw [e]
    exact fun _ => rfl
  | cons p r =>
    rw [e, List.length_cons] at h
    exact .inl (by omega)
theorem begin_dn (hL : LnOk L) (ok : Ok M f) : Dn (phi f) f (phi (begin_ L f t)) (begin_ L f t) :=
  ((arrive_dn f t).trans (letGo_dn hL (arrive_ok ok t))).trans (letGo_dn hL (letGo_ok hL (arrive_ok ok t)))
theorem leave1_phi (hL : LnOk L) (ok : Ok M f) : phi (leave1 L f b) ≤ phi f ∧ (isDue L f b = true → phi (leave1 L f b) < phi f) := by
  unfold leave1
  split
  · rename_i h
    have := send_phi (L := L) (ok.pos b) (Int.le_refl 0) (ok.kept0 b) (.inr (isDue_first hL ok h))
    exact ⟨by omega, fun _ => by omega⟩
  · rename_i h; exact ⟨Int.le_refl _, fun z => absurd z h⟩
theorem leave1_other : (leave1 L f b).s (!b) = f.s (!b) := by
  unfold leave1
  split
  · exact send_ne (by cases b <;> decide)
  · rfl
theorem leave1_now : (leave1 L f b).now = f.now := by
  unfold leave1
  split <;> rfl
theorem leave_phi (hL : LnOk L) (ok : Ok M f) : phi (leave L f) ≤ phi f ∧ (∀ b, isDue L f b = true → phi (leave L f) < phi f) := by
  have h1 := leave1_phi (b := false) hL ok
  have h2 := leave1_phi (b := true) hL (leave1_ok (b := false) hL ok)
  have h2' : phi (leave L f) ≤ phi (leave1 L f false) := h2.1
  refine ⟨by omega, fun b h => ?_⟩
  cases b with
  | false => have := h1.2 h; omega
  | true =>
    have e : isDue L (leave1 L f false) true = true := by
      unfold isDue at h ⊢
      rw [show (leave1 L f false).s true = f.s true from leave1_other (b := false), leave1_now]
      exact h
    have h3 : phi (leave L f) < phi (leave1 L f false) := h2.2 e
    omega
theorem tickIn_ok (hL : LnOk L) (h : SyOk M S) (t : Int) : SyOk M (tickIn L S t) := by
  refine ⟨h.co, ?_⟩
  show Ok (M - rem (S.c false) - rem (S.c true)) (begin_ L S.f t)
  exact begin_ok hL h.ok t
theorem tickMid_ok (hL : LnOk L) (h : SyOk M S) (t : Int) : SyOk M (tickMid L S t) := (go1_ok hL (go1_ok hL (tickIn_ok hL h t)).1).1
theorem doTick_ok (hL : LnOk L) (h : SyOk M S) (t : Int) : SyOk M (doTick L S t) := by
  have h3 := tickMid_ok hL h t
  refine ⟨h3.co, ?_⟩
  show Ok (M - rem ((tickMid L S t).c false) - rem ((tickMid L S t).c true)) (leave L (tickMid L S t).f)
  exact leave_ok hL h3.ok

/-! the clock -/
theorem goFull_now : ∀ (k : Nat) (f : Fl), (goFull L b k f).now = f.now := fun k f => goFull_ind (fun g => g.now = f.now) (fun g h _ => h) k f rfl
theorem letGo_now : (letGo L b f).now = f.now := by
  unfold letGo goSmall
  split
  · exact goFull_now _ _
  · exact goFull_now _ _
theorem put_now : (put L f b n).now = f.now := letGo_now
theorem doStep_now : (doStep L b f c).1.now = f.now := by
  unfold doStep
  split
  · exact put_now
  · split <;> rfl
  · split <;> rfl
  · rfl
theorem goOn_now : ∀ (k : Nat) (f : Fl) (c : Co), (goOn L b k f c).1.now = f.now
  | 0, f, c => by unfold goOn; rfl
  | k + 1, f, c => by
    unfold goOn
    split
    · exact (goOn_now k _ _).trans doStep_now
    · exact doStep_now
theorem go1_now : (go1 L b S).f.now = S.f.now := goOn_now _ _ _
theorem lands_now : ∀ (l : List Pc) (g : Fl), (l.foldl (land L) g).now = g.now
  | [], g => rfl
  | p :: r, g => lands_now r (land L g p)
theorem arrive_now : (arrive L f t).now = t := by unfold arrive; exact lands_now _ _
theorem begin_now : (begin_ L f t).now = t := by
  unfold begin_
  rw [letGo_now, letGo_now, arrive_now]
theorem leave_now : (leave L f).now = f.now := (leave1_now).trans leave1_now
theorem tickIn_now : (tickIn L S t).f.now = t := begin_now
theorem tickMid_now : (tickMid L S t).f.now = t := by
  unfold tickMid
  rw [go1_now, go1_now, tickIn_now]
theorem doTick_now : (doTick L S t).f.now = t := by
  show (leave L _).now = t
  rw [leave_now, tickMid_now]

/-- a pause that is over passes -/
theorem goAll_til (hL : LnOk L) (hc : CoOk c) (ok : Ok (M - rem c) f) (ht : c.til = some f.now) : phi (goAll L b f c).1 + rem (goAll L b f c).2 < phi f + rem c := by
  obtain ⟨n, e⟩ := hc.til _ ht
  have hs : doStep L b f c = (f, c.pass f.now, true) := by
    unfold doStep
    rw [e]
    simp only [ht, Option.getD_some]
    rw [if_neg (by omega)]
  have hr : rem (c.pass f.now) = rem c - 1 := rem_pass (t := f.now) e
  obtain ⟨h1, h2, h3⟩ := doStep_ok (b := b) hL hc ok
  rw [hs] at h1 h2
  unfold goAll goOn
  rw [hs]
  simp only [if_true]
  have h4 := (goOn_ok (b := b) hL (c.steps.length - c.place) f (c.pass f.now) h2 h1).2.2.le
  omega
theorem psi_begin (hL : LnOk L) (h : SyOk M S) : Dn (psi S) S.f (psi (tickIn L S t)) (tickIn L S t).f := by
  rcases begin_dn (t := t) hL h.ok with g | ⟨g, g'⟩
  · refine .inl ?_
    show phi (begin_ L S.f t) + rem (S.c false) + rem (S.c true) < phi S.f + rem (S.c false) + rem (S.c true)
    omega
  · refine .inr ⟨?_, g'⟩
    show phi (begin_ L S.f t) + rem (S.c false) + rem (S.c true) ≤ phi S.f + rem (S.c false) + rem (S.c true)
    omega
theorem go1_til (hL : LnOk L) (h : SyOk M S) (q : (S.c b).til = some S.f.now) : psi (go1 L b S) < psi S := by
  have h1 := goAll_til (b := b) (f := S.f) (c := S.c b) (M := M - rem (S.c (!b))) hL (h.co b) (h.at b) q
  rw [psi_of _ b, psi_of S b, go1_c, go1_ne (d := !b) (by cases b <;> decide)]
  show phi (goAll L b S.f (S.c b)).1 + _ + _ < _
  omega
theorem due_of {f : Fl} {b : Bool} (h : f.now ∈ dues L f b) : isDue L f b = true := by
  unfold isDue
  unfold dues at h
  cases e : (f.s b).first with
  | none => rw [e] at h; simp at h
  | some u => rw [e] at h; simp at h; simp; right; omega
theorem doTick_psi (hL : LnOk L) (h : SyOk M S) (ht : t ∈ evs L S) : psi (doTick L S t) < psi S := by
  have h1 := tickIn_ok hL h t
  have d1 := psi_begin (t := t) hL h
  obtain ⟨h2, d2⟩ := go1_ok (b := false) hL h1
  obtain ⟨h3, d3⟩ := go1_ok (b := true) hL h2
  have d3 : Dn (psi (go1 L false (tickIn L S t))) (go1 L false (tickIn L S t)).f (psi (tickMid L S t)) (tickMid L S t).f := d3
  have h3 : SyOk M (tickMid L S t) := h3
  have l4 := leave_phi hL h3.ok
  have hn : (tickMid L S t).f.now = t := tickMid_now
  have e4 : psi (doTick L S t) = phi (leave L (tickMid L S t).f) + rem ((tickMid L S t).c false) + rem ((tickMid L S t).c true) := rfl
  have e6 : psi (tickMid L S t) = phi (tickMid L S t).f + rem ((tickMid L S t).c false) + rem ((tickMid L S t).c true) := rfl
  have e5 : psi (doTick L S t) ≤ psi (tickMid L S t) := by
    have := l4.1; omega
  have dd := (d1.trans d2).trans d3
  have dl1 := d1.le
  have dl2 := d2.le
  have dl3 := d3.le
  have due : ∀ b, t ∈ dues L S.f b → psi (doTick L S t) < psi S := fun b hd => by
    rcases dd with dd | ⟨dd, ds⟩
    · omega
    · have q : (tickMid L S t).f.now ∈ dues L (tickMid L S t).f b := by
        unfold dues at hd ⊢
        rw [ds b, hn]
        exact hd
      have := l4.2 b (due_of q)
      omega
  rcases List.mem_append.mp ht with ht | ht
  · -- a pause is over
    rcases List.mem_append.mp ht with ht | ht
    · have q : (S.c false).til = some t := by simpa using ht
      have := go1_til (b := false) hL h1 (by rw [tickIn_now]; exact q)
      omega
    · have q : (S.c true).til = some t := by simpa using ht
      have := go1_til (b := true) hL h2 (by rw [go1_now, tickIn_now, go1_ne (by decide)]; exact q)
      have : psi (tickMid L S t) < psi (go1 L false (tickIn L S t)) := this
      omega
  · rcases List.mem_append.mp ht with ht | ht
    · rcases List.mem_append.mp ht with ht | ht
      · -- a piece lands
        obtain ⟨p, hp, e⟩ := List.mem_map.mp ht
        have hm : p ∈ S.f.air.filter fun p => decide (p.at_ ≤ t) := List.mem_filter.mpr ⟨hp, decide_eq_true (by omega)⟩
        have h5 := arrive_phi (L := L) S.f t
        have h6 := List.length_pos_of_mem hm
        have h7 : phi (arrive L S.f t) < phi S.f := by omega
        have h8 := (letGo_dn (b := false) hL (arrive_ok (L := L) h.ok t)).le
        have h9 := (letGo_dn (b := true) hL (letGo_ok (b := false) hL (arrive_ok (L := L) h.ok t))).le
        have h10 : phi (begin_ L S.f t) ≤ phi (letGo L false (arrive L S.f t)) := h9
        have h11 : psi (tickIn L S t) = phi (begin_ L S.f t) + rem (S.c false) + rem (S.c true) := rfl
        have h12 : psi S = phi S.f + rem (S.c false) + rem (S.c true) := rfl
        omega
      · exact due false ht
    · exact due true ht
theorem psi_nonneg (h : SyOk M S) : 0 ≤ psi S := by
  have h1 := rem_nonneg (h.co false)
  have h2 := rem_nonneg (h.co true)
  have h3 := h.ok.phi0
  unfold psi; omega
theorem sy0_ok {P : Bool → List Op} (hP : ∀ b, ∀ o ∈ P b, OpOk o) : SyOk (((P false).map cost).sum + ((P true).map cost).sum) (sy0 P) := by
  refine ⟨fun b => ⟨hP b, Nat.zero_le _, fun u h => by cases h⟩, fun b e h => by simp [sy0, fl0, sd0] at h, fun b _ => Int.le_refl _, ?_⟩
  show (0 : Int) + phi fl0 ≤ _
  have e : phi fl0 = 0 := rfl
  rw [e]
  show 0 + 0 ≤ _ - (((P false).drop 0).map cost).sum - (((P true).drop 0).map cost).sum
  rw [List.drop_zero, List.drop_zero]
  omega
theorem reach_ok {P : Bool → List Op} (hL : LnOk L) (hP : ∀ b, ∀ o ∈ P b, OpOk o) (h : Reach L P S) : SyOk (((P false).map cost).sum + ((P true).map cost).sum) S := by
  induction h with
  | start => exact doTick_ok hL (sy0_ok hP) 0
  | step _ _ ih => exact doTick_ok hL ih _
end
end Sh

namespace Sh
/-! Flow level: counts, and how long a byte is held. -/
def airTot (l : List Pc) (b : Bool) : Int := (l.map fun p => if p.sd = b then p.n else 0).sum
theorem airTot_cons (p : Pc) (l : List Pc) (b : Bool) : airTot (p :: l) b = (if p.sd = b then p.n else 0) + airTot l b := by simp [airTot]
theorem airTot_append (l m : List Pc) (b : Bool) : airTot (l ++ m) b = airTot l b + airTot m b := by simp [airTot]
theorem airTot_perm {A B : List Pc} {b : Bool} (h : A.Perm B) : airTot A b = airTot B b := by
  induction h with
  | nil => rfl
  | cons x _ ih => rw [airTot_cons, airTot_cons, ih]
  | swap x y l => simp only [airTot_cons]; omega
  | trans _ _ h1 h2 => rw [h1, h2]
theorem airTot_nonneg {b : Bool} : ∀ {l : List Pc}, (∀ p ∈ l, 0 ≤ p.n) → 0 ≤ airTot l b
  | [], _ => by simp [airTot]
  | p :: r, h => by
    have h1 := h p (by simp)
    have h2 := airTot_nonneg (b := b) (l := r) fun x hx => h x (by simp [hx])
    rw [airTot_cons]; split <;> omega
theorem airTot_pos {b : Bool} : ∀ {l : List Pc}, 0 < airTot l b → ∃ p ∈ l, p.sd = b ∧ 0 < p.n
  | [], h => by simp [airTot] at h
  | p :: r, h => by
    rw [airTot_cons] at h
    by_cases q : p.sd = b ∧ 0 < p.n
    · exact ⟨p, by simp, q⟩
    · have h' : 0 < airTot r b := by
        by_cases z : p.sd = b
        · rw [if_pos z] at h
          have : ¬ 0 < p.n := fun y => q ⟨z, y⟩
          omega
        · rw [if_neg z] at h; omega
      obtain ⟨x, h1, h2⟩ := airTot_pos (b := b) (l := r) h'
      exact ⟨x, by simp [h1], h2⟩
def bnd (L : Ln) (b : Bool) : Int := 2 * L.way + (L.st (!b)).delay

structure Av (L : Ln) (f : Fl) : Prop where
  tk : ∀ b, ∀ e ∈ (f.s b).stock, 0 < e.1 ∧ e.2 ≤ f.now
  air : ∀ p ∈ f.air, 0 ≤ p.n ∧ f.now ≤ p.at_ ∧ p.at_ ≤ f.now + L.way ∧ p.ans ≤ (f.s p.sd).come
  sum : ∀ b, (f.s (!b)).come + airTot f.air b = (f.s b).out
  known : ∀ b, (f.s b).known ≤ (f.s (!b)).come
  small : ∀ b, (f.s b).small ≤ (f.s b).out
  first : ∀ b u, (f.s b).first = some u → u ≤ f.now ∧ f.now ≤ u + (L.st b).delay
  ack : ∀ b, (f.s b).first = none → (f.s b).come ≤ (f.s (!b)).known ∨ ∃ p ∈ f.air, p.sd = b ∧ (f.s b).come ≤ p.ans
/-- a byte of side b that was written at tk: what the answer to all that was sent waits for -/
structure Hd (L : Ln) (f : Fl) (b : Bool) (tk : Int) : Prop where
  h1 : ∀ p ∈ f.air, p.sd = b → 0 < p.n → p.at_ ≤ tk + L.way
  h2 : ∀ u, (f.s (!b)).first = some u → u ≤ tk + L.way
  h3 : (f.s (!b)).first = none → (f.s (!b)).come ≤ (f.s b).known ∨ ∃ p ∈ f.air, p.sd = (!b) ∧ (f.s (!b)).come ≤ p.ans ∧ p.at_ ≤ tk + bnd L b
  h4 : f.now ≤ tk + bnd L b
structure Fv (L : Ln) (f : Fl) : Prop where
  a : Av L f
  h : ∀ b, ∀ e ∈ (f.s b).stock, Hd L f b e.2
  long : ∀ b, (f.s b).long ≤ bnd L b
/-- nothing more may be sent -/
def Blk (L : Ln) (f : Fl) (b : Bool) : Prop := kept (f.s b) < L.size ∧ (0 < kept (f.s b) → lets L f b = false)

section
variable {L : Ln} {f g : Fl} {b c d : Bool} {n M t : Int}
theorem bn (h : c ≠ b) : c = !b := by cases b <;> cases c <;> simp_all
theorem nb : (!b) ≠ b := by cases b <;> decide
theorem nb' : b ≠ (!b) := by cases b <;> decide
theorem come_send : ((send L f b n).s d).come = (f.s d).come := by
  by_cases q : d = b
  · subst q; rw [send_same]; rfl
  · rw [send_ne q]
theorem known_send : ((send L f b n).s d).known = (f.s d).known := by
  by_cases q : d = b
  · subst q; rw [send_same]; rfl
  · rw [send_ne q]
theorem send_fv (hL : LnOk L) (h : Fv L f) (h0 : 0 ≤ n) (h1 : n ≤ kept (f.s b)) (hr : n = 0 ∨ ∀ e ∈ (takeOut f.now (f.s b).stock n (f.s b).long).1, e.2 = f.now) : Fv L (send L f b n) := by
  have hw := hL.way1
  have hp : PosL (f.s b).stock := fun e he => (h.a.tk b e he).1
  have mem : ∀ {p : Pc}, p ∈ (send L f b n).air → p ∈ f.air ∨ p = ⟨f.now + L.way, b, n, (f.s b).come⟩ := fun {p} hp => by
    rcases List.mem_append.mp hp with q | q
    · exact .inl q
    · exact .inr (List.mem_singleton.mp q)
  have old : ∀ {p : Pc}, p ∈ f.air → p ∈ (send L f b n).air := fun hp => List.mem_append_left _ hp
  have new : (⟨f.now + L.way, b, n, (f.s b).come⟩ : Pc) ∈ (send L f b n).air := List.mem_append_right _ (List.mem_singleton.mpr rfl)
  have now' : (send L f b n).now = f.now := rfl
  refine ⟨⟨fun d e he => ?_, fun p hq => ?_, fun d => ?_, fun d => ?_, fun d => ?_, fun d u hu => ?_, fun d hu => ?_⟩, fun d e he => ?_, fun d => ?_⟩
  · by_cases q : d = b
    · subst q; rw [send_same] at he
      obtain ⟨q1, e0, q2, q3⟩ := takeOut_mem he hp
      exact ⟨q1, by rw [q3]; exact (h.a.tk d e0 q2).2⟩
    · rw [send_ne q] at he; exact h.a.tk d e he
  · rw [come_send]
    rcases mem hq with q | rfl
    · exact h.a.air p q
    · refine ⟨h0, ?_, Int.le_refl _, Int.le_refl _⟩
      show f.now ≤ f.now + L.way
      omega
  · rw [come_send]
    show _ + airTot (f.air ++ [_]) d = _
    rw [airTot_append, airTot_cons]
    have := h.a.sum d
    by_cases q : d = b
    · subst q; rw [send_same]
      simp only [if_true, sentSd]
      simp [airTot] at *
      omega
    · rw [send_ne q, if_neg (fun z => q z.symm)]
      simp [airTot] at *
      omega
  · rw [come_send, known_send]; exact h.a.known d
  · by_cases q : d = b
    · subst q; rw [send_same]
      have := h.a.small d
      show (if 0 < n ∧ n < L.size then (f.s d).out + n else (f.s d).small) ≤ (f.s d).out + n
      split <;> omega
    · rw [send_ne q]; exact h.a.small d
  · by_cases q : d = b
    · subst q; rw [send_same] at hu; cases hu
    · rw [send_ne q] at hu; exact h.a.first d u hu
  · rw [come_send, known_send]
    by_cases q : d = b
    · subst q; exact .inr ⟨_, new, rfl, Int.le_refl _⟩
    · rw [send_ne q] at hu
      rcases h.a.ack d hu with r | ⟨p, r1, r2⟩
      · exact .inl r
      · exact .inr ⟨p, old r1, r2⟩
  · by_cases q : d = b
    · subst q; rw [send_same] at he
      have he' : e ∈ (takeOut f.now (f.s d).stock n (f.s d).long).1 := he
      obtain ⟨_, e0, q2, q3⟩ := takeOut_mem he' hp
      have o := h.h d e0 q2
      rw [← q3] at o
      refine ⟨fun p hp' hs hn => ?_, fun u hu => ?_, fun hu => ?_, o.h4⟩
      · rcases mem hp' with r | rfl
        · exact o.h1 p r hs hn
        · rcases hr with z | z
          · exact absurd hn (by show ¬ 0 < n; omega)
          · have := z e he'
            show f.now + L.way ≤ _
            omega
      · rw [send_ne nb] at hu; exact o.h2 u hu
      · rw [come_send, known_send]
        rw [send_ne nb] at hu
        rcases o.h3 hu with r | ⟨p, r1, r2⟩
        · exact .inl r
        · exact .inr ⟨p, old r1, r2⟩
    · rw [send_ne q] at he
      have o := h.h d e he
      obtain rfl := bn q
      refine ⟨fun p hp' hs hn => ?_, fun u hu => ?_, fun hu => ?_, o.h4⟩
      · rcases mem hp' with r | rfl
        · exact o.h1 p r hs hn
        · exact absurd hs nb'
      · rw [Bool.not_not, send_same] at hu; cases hu
      · rw [come_send, known_send]
        rw [Bool.not_not]
        have o2 := o.h2
        have o3 := o.h3
        rw [Bool.not_not] at o2 o3
        cases z : (f.s b).first with
        | none =>
          rcases o3 z with r | ⟨p, r1, r2⟩
          · exact .inl r
          · exact .inr ⟨p, old r1, r2⟩
        | some u =>
          refine .inr ⟨_, new, rfl, Int.le_refl _, ?_⟩
          have z1 := h.a.first b u z
          have z2 := o2 u z
          show f.now + L.way ≤ _
          unfold bnd
          rw [Bool.not_not]
          omega
  · by_cases q : d = b
    · subst q; rw [send_same]
      refine takeOut_long (h.long d) fun e he => ?_
      have := (h.h d e he).h4
      omega
    · rw [send_ne q]; exact h.long d

theorem add_s : ((addStock f b n).s d).come = (f.s d).come ∧ ((addStock f b n).s d).known = (f.s d).known ∧ ((addStock f b n).s d).first = (f.s d).first ∧ ((addStock f b n).s d).out = (f.s d).out ∧
    ((addStock f b n).s d).small = (f.s d).small ∧ ((addStock f b n).s d).long = (f.s d).long ∧ ((addStock f b n).s d).taken = (f.s d).taken := by
  by_cases q : d = b
  · subst q; rw [addStock_same]; exact ⟨rfl, rfl, rfl, rfl, rfl, rfl, rfl⟩
  · rw [addStock_ne q]; exact ⟨rfl, rfl, rfl, rfl, rfl, rfl, rfl⟩
theorem addStock_fv (hL : LnOk L) (h : Fv L f) (hn : 0 < n) : Fv L (addStock f b n) := by
  have hw := hL.way1
  have hd := hL.delay0
  have memS : ∀ d e, e ∈ ((addStock f b n).s d).stock → e ∈ (f.s d).stock ∨ (d = b ∧ e = (n, f.now)) := fun d e he => by
    by_cases q : d = b
    · subst q; rw [addStock_same] at he
      rcases List.mem_append.mp he with r | r
      · exact .inl r
      · exact .inr ⟨rfl, List.mem_singleton.mp r⟩
    · rw [addStock_ne q] at he; exact .inl he
  refine ⟨⟨fun d e he => ?_, fun p hq => ?_, fun d => ?_, fun d => ?_, fun d => ?_, fun d u hu => ?_, fun d hu => ?_⟩, fun d e he => ?_, fun d => ?_⟩
  · rcases memS d e he with r | ⟨_, rfl⟩
    · exact h.a.tk d e r
    · exact ⟨hn, Int.le_refl _⟩
  · rw [add_s.1]; exact h.a.air p hq
  · rw [add_s.1, add_s.2.2.2.1]; exact h.a.sum d
  · rw [add_s.1, add_s.2.1]; exact h.a.known d
  · rw [add_s.2.2.2.2.1, add_s.2.2.2.1]; exact h.a.small d
  · rw [add_s.2.2.1] at hu; exact h.a.first d u hu
  · rw [add_s.1, add_s.2.1]; rw [add_s.2.2.1] at hu; exact h.a.ack d hu
  · rcases memS d e he with r | ⟨rfl, rfl⟩
    · have o := h.h d e r
      refine ⟨o.h1, fun u hu => ?_, fun hu => ?_, o.h4⟩
      · rw [add_s.2.2.1] at hu; exact o.h2 u hu
      · rw [add_s.1, add_s.2.1]; rw [add_s.2.2.1] at hu; exact o.h3 hu
    · refine ⟨fun p hp _ _ => (h.a.air p hp).2.2.1, fun u hu => ?_, fun hu => ?_, ?_⟩
      · rw [add_s.2.2.1] at hu
        have := h.a.first _ u hu
        show u ≤ f.now + L.way
        omega
      · rw [add_s.1, add_s.2.1]; rw [add_s.2.2.1] at hu
        rcases h.a.ack (!d) hu with r | ⟨p, r1, r2, r3⟩
        · exact .inl (by simpa using r)
        · refine .inr ⟨p, r1, r2, r3, ?_⟩
          have := (h.a.air p r1).2.2.1
          have := hd (!d)
          show p.at_ ≤ f.now + bnd L d
          unfold bnd
          omega
      · have := hd (!d)
        show f.now ≤ f.now + bnd L d
        unfold bnd
        omega
  · rw [add_s.2.2.2.2.2.1]; exact h.long d

/-! letGo -/
def Cut (L : Ln) (f : Fl) (b : Bool) : Prop := ∃ o w, (f.s b).stock = o ++ w ∧ amt o < L.size ∧ ∀ e ∈ w, e.2 = f.now
theorem goFull_fv (hL : LnOk L) (k : Nat) (h : Fv L f) (hc : Cut L f b) : Fv L (goFull L b k f) ∧ Cut L (goFull L b k f) b := by
  refine goFull_ind (fun g => Fv L g ∧ Cut L g b) (fun g hg q => ?_) k f ⟨h, hc⟩
  obtain ⟨hg, o, w, e1, e2, e3⟩ := hg
  have h1 := hL.size1
  have hp : PosL (g.s b).stock := fun e he => (hg.a.tk b e he).1
  have hn : ∀ e ∈ (takeOut g.now (g.s b).stock L.size (g.s b).long).1, e.2 = g.now := fun e he => by
    rw [e1] at he hp
    obtain ⟨e0, r1, r2⟩ := takeOut_new he hp (by omega) (.inl e2)
    rw [r2]; exact e3 e0 r1
  refine ⟨send_fv hL hg (by omega) q (.inr hn), [], _, rfl, by simp [amt]; omega, fun e he => ?_⟩
  rw [send_same] at he
  exact hn e he
theorem goSmall_fv (hL : LnOk L) (h : Fv L f) : Fv L (goSmall L b f) := by
  unfold goSmall
  split
  · rename_i q
    have hp : PosL (f.s b).stock := fun e he => (h.a.tk b e he).1
    refine send_fv hL h (by omega) (Int.le_refl _) (.inr fun e he => ?_)
    have e1 := takeOut_amt (now := f.now) (lg := (f.s b).long) hp (Int.le_of_lt q.1) (Int.le_refl _)
    have e2 : (takeOut f.now (f.s b).stock (kept (f.s b)) (f.s b).long).1 = [] := amt_zero (fun x hx => (takeOut_mem hx hp).1) (by rw [kept_eq] at *; omega)
    rw [e2] at he; cases he
  · exact h
theorem letGo_fv (hL : LnOk L) (h : Fv L f) (hc : Cut L f b) : Fv L (letGo L b f) := goSmall_fv hL (goFull_fv hL _ h hc).1
theorem Cut.of_less (h : kept (f.s b) < L.size) : Cut L f b := ⟨_, [], (List.append_nil _).symm, h, fun e he => nomatch he⟩
theorem add_cut (h : kept (f.s b) < L.size) : Cut L (addStock f b n) b := by
  refine ⟨_, [(n, f.now)], by rw [addStock_same], h, fun e he => ?_⟩
  rw [List.mem_singleton.mp he]
  rfl
theorem lets_of (h1 : (g.s b).out = (f.s b).out) (h2 : (g.s b).known = (f.s b).known) (h3 : (g.s b).small = (f.s b).small) : lets L g b = lets L f b := by
  unfold lets
  rw [h1, h2, h3]
theorem Blk.of (h : Blk L f b) (h0 : (g.s b).stock = (f.s b).stock) (h1 : (g.s b).out = (f.s b).out) (h2 : (g.s b).known = (f.s b).known) (h3 : (g.s b).small = (f.s b).small) : Blk L g b := by
  have e : kept (g.s b) = kept (f.s b) := by unfold kept; rw [h0]
  unfold Blk
  rw [e, lets_of h1 h2 h3]
  exact h
theorem goFull_ne (k : Nat) (h : c ≠ b) : (goFull L b k f).s c = f.s c := goFull_ind (fun g => g.s c = f.s c) (fun g hg _ => (send_ne h).trans hg) k f rfl
theorem letGo_ne (h : c ≠ b) : (letGo L b f).s c = f.s c := by
  unfold letGo goSmall
  split
  · rw [send_ne h, goFull_ne _ h]
  · exact goFull_ne _ h
theorem letGo_blk (hL : LnOk L) (hp : PosL (f.s b).stock) : Blk L (letGo L b f) b := by
  have h1 := hL.size1
  have hl := goFull_less hL (kept (f.s b)).toNat f hp (by omega)
  have hp2 : PosL ((goFull L b (kept (f.s b)).toNat f).s b).stock :=
    goFull_ind (L := L) (b := b) (fun g => PosL (g.s b).stock) (fun g hg _ => by rw [send_same]; exact fun e he => (takeOut_mem he hg).1) _ f hp
  unfold letGo
  generalize goFull L b (kept (f.s b)).toNat f = g at hl hp2
  refine ⟨goSmall_less hL hp2 hl, fun hk => ?_⟩
  unfold goSmall at hk ⊢
  split at hk
  · rename_i q
    rw [send_same, kept_sent hp2 (by omega) (Int.le_refl _)] at hk
    omega
  · rename_i q
    rw [if_neg q]
    cases e : lets L g b with
    | false => rfl
    | true => exact absurd ⟨hk, e⟩ q
theorem put_fv (hL : LnOk L) (h : Fv L f) (hb : Blk L f b) (hn : 0 < n) : Fv L (put L f b n) := letGo_fv hL (addStock_fv hL h hn) (add_cut hb.1)
theorem put_blk (hL : LnOk L) (h : Fv L f) (hn : 0 < n) : Blk L (put L f b n) b := letGo_blk hL fun e he => ((addStock_fv hL h hn).a.tk b e he).1
theorem put_ne (h : c ≠ b) : (put L f b n).s c = f.s c := (letGo_ne h).trans (addStock_ne h)

/-! landing -/
theorem land_same {p : Pc} : (land L f p).s (!p.sd) = landSd L f.now (f.s (!p.sd)) p.n p.ans := upS_same
theorem land_ne {p : Pc} (h : c ≠ !p.sd) : (land L f p).s c = f.s c := upS_ne h
theorem land_sd {p : Pc} : (land L f p).s p.sd = f.s p.sd := land_ne nb'
theorem land_come_le {p : Pc} : (f.s d).come ≤ ((land L f p).s d).come := by
  by_cases q : d = !p.sd
  · subst q; rw [land_same]
    show _ ≤ if 0 < p.n then (f.s (!p.sd)).come + p.n else (f.s (!p.sd)).come
    split <;> omega
  · rw [land_ne q]; exact Int.le_refl _
theorem land_come_eq {p : Pc} (h : 0 ≤ p.n) : ((land L f p).s (!p.sd)).come = (f.s (!p.sd)).come + p.n := by
  rw [land_same]
  show (if 0 < p.n then _ else _) = _
  split <;> omega
theorem land_known_le {p : Pc} : (f.s d).known ≤ ((land L f p).s d).known := by
  by_cases q : d = !p.sd
  · subst q; rw [land_same]
    show _ ≤ if p.ans > _ then p.ans else _
    split <;> omega
  · rw [land_ne q]; exact Int.le_refl _
theorem land_known_ge {p : Pc} : p.ans ≤ ((land L f p).s (!p.sd)).known := by
  rw [land_same]
  show _ ≤ if p.ans > _ then p.ans else _
  split <;> omega
theorem land_known_sd {p : Pc} : ((land L f p).s p.sd).known = (f.s p.sd).known := by rw [land_sd]
theorem land_first {p : Pc} {u : Int} (h : ((land L f p).s (!p.sd)).first = some u) : (f.s (!p.sd)).first = some u ∨ (0 < p.n ∧ u = f.now) := by
  rw [land_same] at h
  by_cases q : 0 < p.n
  · simp only [landSd, if_pos q] at h
    cases e : (f.s (!p.sd)).first with
    | none => rw [e] at h; exact .inr ⟨q, (Option.some.inj h).symm⟩
    | some v => rw [e] at h; exact .inl h
  · simp only [landSd, if_neg q] at h
    exact .inl h
theorem land_none {p : Pc} (h : ((land L f p).s (!p.sd)).first = none) : (f.s (!p.sd)).first = none ∧ ¬ 0 < p.n := by
  rw [land_same] at h
  by_cases q : 0 < p.n
  · simp only [landSd, if_pos q] at h
    cases e : (f.s (!p.sd)).first with
    | none => rw [e] at h; cases h
    | some v => rw [e] at h; cases h
  · simp only [landSd, if_neg q] at h
    exact ⟨h, q⟩
theorem land_keep {p : Pc} : ((land L f p).s d).stock = (f.s d).stock ∧ ((land L f p).s d).out = (f.s d).out ∧ ((land L f p).s d).small = (f.s d).small ∧ ((land L f p).s d).long = (f.s d).long ∧ ((land L f p).s d).taken = (f.s d).taken := by
  by_cases q : d = !p.sd
  · subst q; rw [land_same]; exact ⟨rfl, rfl, rfl, rfl, rfl⟩
  · rw [land_ne q]; exact ⟨rfl, rfl, rfl, rfl, rfl⟩
theorem land_fv {p : Pc} {A : List Pc} (hL : LnOk L) (h : Fv L { f with air := p :: A }) (ht : p.at_ ≤ f.now) : Fv L { land L f p with air := A } := by
  have hd := hL.delay0
  obtain ⟨pn, p1, p2, pa⟩ := h.a.air p (List.mem_cons_self)
  have pa : p.ans ≤ (f.s p.sd).come := pa
  have pt : p.at_ = f.now := Int.le_antisymm ht p1
  have memA : ∀ {x : Pc}, x ∈ A → x ∈ p :: A := fun hx => List.mem_cons_of_mem _ hx
  have hs := h.a.sum
  refine ⟨⟨fun d e he => ?_, fun q hq => ?_, fun d => ?_, fun d => ?_, fun d => ?_, fun d u hu => ?_, fun d hu => ?_⟩, fun d e he => ?_, fun d => ?_⟩
  · exact h.a.tk d e (by rw [← (land_keep (L := L) (f := f) (p := p) (d := d)).1]; exact he)
  · obtain ⟨a1, a2, a3, a4⟩ := h.a.air q (memA hq)
    exact ⟨a1, a2, a3, Int.le_trans a4 land_come_le⟩
  · show ((land L f p).s (!d)).come + airTot A d = ((land L f p).s d).out
    rw [land_keep.2.1]
    have s1 : (f.s (!d)).come + airTot (p :: A) d = (f.s d).out := h.a.sum d
    rw [airTot_cons] at s1
    by_cases q : p.sd = d
    · subst q
      rw [land_come_eq pn]
      rw [if_pos rfl] at s1
      omega
    · rw [if_neg q] at s1
      have e : d = !p.sd := bn (fun z => q z.symm)
      subst e
      rw [Bool.not_not] at s1 ⊢
      rw [land_sd]
      omega
  · show ((land L f p).s d).known ≤ ((land L f p).s (!d)).come
    by_cases q : d = p.sd
    · subst q
      rw [land_known_sd]
      exact Int.le_trans (h.a.known p.sd) land_come_le
    · obtain rfl := bn q
      have k1 : (f.s (!p.sd)).known ≤ (f.s (!!p.sd)).come := h.a.known (!p.sd)
      rw [Bool.not_not] at k1 ⊢
      rw [land_same, land_sd]
      show (if p.ans > _ then p.ans else _) ≤ _
      split <;> omega
  · show ((land L f p).s d).small ≤ ((land L f p).s d).out
    rw [land_keep.2.1, land_keep.2.2.1]
    exact h.a.small d
  · by_cases q : d = p.sd
    · subst q
      have hu' : ((land L f p).s p.sd).first = some u := hu
      rw [land_sd] at hu'
      exact h.a.first p.sd u hu'
    · obtain rfl := bn q
      rcases land_first hu with r | ⟨_, r⟩
      · exact h.a.first _ u r
      · have := hd (!p.sd)
        show u ≤ f.now ∧ f.now ≤ u + _
        omega
  · show ((land L f p).s d).come ≤ ((land L f p).s (!d)).known ∨ ∃ q ∈ A, q.sd = d ∧ ((land L f p).s d).come ≤ q.ans
    by_cases q : d = p.sd
    · subst q
      have hu' : ((land L f p).s p.sd).first = none := hu
      rw [land_sd] at hu' ⊢
      rcases h.a.ack p.sd hu' with r | ⟨x, r1, r2, r3⟩
      · exact .inl (Int.le_trans r land_known_le)
      · rcases List.mem_cons.mp r1 with rfl | r1
        · exact .inl (Int.le_trans r3 land_known_ge)
        · exact .inr ⟨x, r1, r2, r3⟩
    · obtain rfl := bn q
      obtain ⟨hu1, hn⟩ := land_none hu
      have ec := land_come_eq (L := L) (f := f) pn
      have ec' : ((land L f p).s (!p.sd)).come = (f.s (!p.sd)).come := by omega
      rw [ec']
      rcases h.a.ack (!p.sd) hu1 with r | ⟨x, r1, r2, r3⟩
      · exact .inl (Int.le_trans r land_known_le)
      · rcases List.mem_cons.mp r1 with rfl | r1
        · exact absurd r2 nb'
        · exact .inr ⟨x, r1, r2, r3⟩
  · have he' : e ∈ (f.s d).stock := by rw [← (land_keep (L := L) (f := f) (p := p) (d := d)).1]; exact he
    have o := h.h d e he'
    refine ⟨fun x hx => o.h1 x (memA hx), fun u hu => ?_, fun hu => ?_, o.h4⟩
    · have hu' : ((land L f p).s (!d)).first = some u := hu
      by_cases q : d = p.sd
      · subst q
        rcases land_first hu' with r | ⟨r1, r2⟩
        · exact o.h2 u r
        · have := o.h1 p (List.mem_cons_self) rfl r1
          omega
      · obtain rfl := bn q
        rw [Bool.not_not, land_sd] at hu'
        exact o.h2 u (by rw [Bool.not_not]; exact hu')
    · have hu' : ((land L f p).s (!d)).first = none := hu
      show ((land L f p).s (!d)).come ≤ ((land L f p).s d).known ∨ ∃ q ∈ A, q.sd = (!d) ∧ ((land L f p).s (!d)).come ≤ q.ans ∧ q.at_ ≤ e.2 + bnd L d
      by_cases q : d = p.sd
      · subst q
        obtain ⟨hu1, hn⟩ := land_none hu'
        have ec := land_come_eq (L := L) (f := f) pn
        have ec' : ((land L f p).s (!p.sd)).come = (f.s (!p.sd)).come := by omega
        rw [ec']
        rcases o.h3 hu1 with r | ⟨x, r1, r2, r3⟩
        · exact .inl (Int.le_trans r land_known_le)
        · rcases List.mem_cons.mp r1 with rfl | r1
          · exact absurd r2 nb'
          · exact .inr ⟨x, r1, r2, r3⟩
      · obtain rfl := bn q
        have o3 := o.h3
        rw [Bool.not_not] at o3 hu' ⊢
        rw [land_sd] at hu' ⊢
        rcases o3 hu' with r | ⟨x, r1, r2, r3, r4⟩
        · exact .inl (Int.le_trans r land_known_le)
        · rcases List.mem_cons.mp r1 with rfl | r1
          · exact .inl (Int.le_trans r3 land_known_ge)
          · exact .inr ⟨x, r1, r2, r3, r4⟩
  · show ((land L f p).s d).long ≤ _
    rw [land_keep.2.2.2.1]
    exact h.long d

theorem lets_less (h : Av L f) (e : lets L f b = false) : (f.s b).known < (f.s b).out := by
  have h1 := h.known b
  have h2 := h.sum b
  have h3 := airTot_nonneg (b := b) fun p hp => (h.air p hp).1
  have h4 := h.small b
  unfold lets at e
  split at e
  · have := of_decide_eq_false e; omega
  · cases e
  · have := of_decide_eq_false e; omega
/-- on to the next event -/
theorem tick_fv (hL : LnOk L) (h : Fv L f) (hb : ∀ b, Blk L f b) (h0 : f.now ≤ t) (h1 : ∀ p ∈ f.air, t ≤ p.at_) (h2 : ∀ b u, (f.s b).first = some u → t ≤ u + (L.st b).delay) : Fv L { f with now := t } := by
  have hw := hL.way1
  refine ⟨⟨fun d e he => ?_, fun p hq => ?_, h.a.sum, h.a.known, h.a.small, fun d u hu => ?_, h.a.ack⟩, fun d e he => ?_, h.long⟩
  · have := h.a.tk d e he
    exact ⟨this.1, Int.le_trans this.2 h0⟩
  · obtain ⟨a1, a2, a3, a4⟩ := h.a.air p hq
    exact ⟨a1, h1 p hq, by show p.at_ ≤ t + L.way; omega, a4⟩
  · have := h.a.first d u hu
    exact ⟨Int.le_trans this.1 h0, h2 d u hu⟩
  · have o := h.h d e he
    refine ⟨o.h1, o.h2, o.h3, ?_⟩
    show t ≤ _
    have hp : PosL (f.s d).stock := fun x hx => (h.a.tk d x hx).1
    have hk : 0 < kept (f.s d) := by
      have := amt_len hp
      have : 0 < (f.s d).stock.length := List.length_pos_of_mem he
      rw [kept_eq]; omega
    have hl := lets_less h.a ((hb d).2 hk)
    have hs := h.a.sum d
    have hd := hL.delay0 (!d)
    unfold bnd
    by_cases q : 0 < airTot f.air d
    · obtain ⟨p, r1, r2, r3⟩ := airTot_pos q
      have := h1 p r1
      have := o.h1 p r1 r2 r3
      omega
    · cases z : (f.s (!d)).first with
      | some u =>
        have := h2 (!d) u z
        have := o.h2 u z
        omega
      | none =>
        rcases o.h3 z with r | ⟨p, r1, _, _, r4⟩
        · omega
        · have := h1 p r1
          unfold bnd at r4
          omega
theorem perm_fv {A B : List Pc} (hp : A.Perm B) (h : Fv L { f with air := A }) : Fv L { f with air := B } := by
  have m : ∀ {x : Pc}, x ∈ B → x ∈ A := fun hx => hp.mem_iff.mpr hx
  have m' : ∀ {x : Pc}, x ∈ A → x ∈ B := fun hx => hp.mem_iff.mp hx
  refine ⟨⟨h.a.tk, fun p hq => h.a.air p (m hq), fun d => ?_, h.a.known, h.a.small, h.a.first, fun d hu => ?_⟩, fun d e he => ?_, h.long⟩
  · show _ + airTot B d = _
    rw [← airTot_perm hp]
    exact h.a.sum d
  · rcases h.a.ack d hu with r | ⟨x, r1, r2⟩
    · exact .inl r
    · exact .inr ⟨x, m' r1, r2⟩
  · have o := h.h d e he
    refine ⟨fun x hx => o.h1 x (m hx), o.h2, fun hu => ?_, o.h4⟩
    rcases o.h3 hu with r | ⟨x, r1, r2⟩
    · exact .inl r
    · exact .inr ⟨x, m' r1, r2⟩
theorem arrive_fv (hL : LnOk L) (h : Fv L { f with now := t }) : Fv L (arrive L f t) :=
  arrive_ind (fun g => Fv L g) t (fun g A B hp hg => perm_fv hp hg) (fun g p A e hp hg => land_fv hL hg (by rw [e]; exact hp)) h
theorem arrive_stock : ((arrive L f t).s d).stock = (f.s d).stock :=
  arrive_ind (L := L) (f := f) (fun g => (g.s d).stock = (f.s d).stock) t (fun g A B _ hg => hg) (fun g p A _ _ hg => land_keep.1.trans hg) rfl
theorem begin_fv (hL : LnOk L) (h : Fv L { f with now := t }) (hb : ∀ b, kept (f.s b) < L.size) : Fv L (begin_ L f t) ∧ ∀ b, Blk L (begin_ L f t) b := by
  have h1 := arrive_fv hL h
  have k1 : ∀ b, kept ((arrive L f t).s b) < L.size := fun b => by unfold kept; rw [arrive_stock]; exact hb b
  have h2 := letGo_fv (b := false) hL h1 (Cut.of_less (k1 false))
  have k2 : kept ((letGo L false (arrive L f t)).s true) < L.size := by rw [letGo_ne (by decide)]; exact k1 true
  have h3 := letGo_fv (b := true) hL h2 (Cut.of_less k2)
  refine ⟨h3, fun b => ?_⟩
  cases b with
  | true => exact letGo_blk hL fun e he => (h2.a.tk true e he).1
  | false =>
    have q := letGo_blk (b := false) hL fun e he => (h1.a.tk false e he).1
    have e : (begin_ L f t).s false = (letGo L false (arrive L f t)).s false := letGo_ne (by decide)
    exact q.of (by rw [e]) (by rw [e]) (by rw [e]) (by rw [e])
theorem leave1_fv (hL : LnOk L) (h : Fv L f) : Fv L (leave1 L f b) := by
  unfold leave1
  split
  · exact send_fv hL h (Int.le_refl _) (amt_nonneg fun e he => (h.a.tk b e he).1) (.inl rfl)
  · exact h
theorem send0_s : ((send L f b 0).s d).stock = (f.s d).stock ∧ ((send L f b 0).s d).out = (f.s d).out ∧ ((send L f b 0).s d).known = (f.s d).known ∧ ((send L f b 0).s d).small = (f.s d).small := by
  by_cases q : d = b
  · subst q
    rw [send_same]
    refine ⟨?_, Int.add_zero _, rfl, ?_⟩
    · show (takeOut _ _ 0 _).1 = _
      rw [takeOut_zero]
    · show (if (0 : Int) < 0 ∧ 0 < L.size then (f.s d).out + 0 else (f.s d).small) = _
      rw [if_neg (by omega)]
  · rw [send_ne q]; exact ⟨rfl, rfl, rfl, rfl⟩
theorem leave1_blk (h : Blk L f d) : Blk L (leave1 L f b) d := by
  unfold leave1
  split
  · exact h.of send0_s.1 send0_s.2.1 send0_s.2.2.1 send0_s.2.2.2
  · exact h
theorem leave_fv (hL : LnOk L) (h : Fv L f) : Fv L (leave L f) := leave1_fv hL (leave1_fv hL h)
theorem leave_blk (h : Blk L f d) : Blk L (leave L f) d := leave1_blk (leave1_blk h)
end
end Sh

namespace Sh
/-! System level: what came by a tick was written a way earlier. -/
def wr : Op → Int
  | .write n => n
  | _ => 0
def rd : Op → Int
  | .read n => n
  | _ => 0
def W (l : List Op) (k : Nat) : Int := ((l.take k).map wr).sum
def R (l : List Op) (k : Nat) : Int := ((l.take k).map rd).sum
theorem take_succ_of {l : List Op} {k : Nat} {o : Op} (h : l[k]? = some o) : l.take (k + 1) = l.take k ++ [o] := by
  rw [List.take_succ, h]; rfl
theorem W_succ {l : List Op} {k : Nat} {o : Op} (h : l[k]? = some o) : W l (k + 1) = W l k + wr o := by
  unfold W; rw [take_succ_of h]; simp
theorem R_succ {l : List Op} {k : Nat} {o : Op} (h : l[k]? = some o) : R l (k + 1) = R l k + rd o := by
  unfold R; rw [take_succ_of h]; simp
theorem W_step {l : List Op} (hl : ∀ o ∈ l, OpOk o) (k : Nat) : W l k ≤ W l (k + 1) := by
  cases h : l[k]? with
  | some o =>
    rw [W_succ h]
    have := hl o (List.mem_of_getElem? h)
    cases o <;> simp only [wr, OpOk] at * <;> omega
  | none =>
    have := List.getElem?_eq_none_iff.mp h
    unfold W
    rw [List.take_of_length_le this, List.take_of_length_le (by omega)]
    exact Int.le_refl _
theorem W_mono {l : List Op} (hl : ∀ o ∈ l, OpOk o) {k j : Nat} (h : k ≤ j) : W l k ≤ W l j := by
  induction h with
  | refl => exact Int.le_refl _
  | step _ ih => exact Int.le_trans ih (W_step hl _)
theorem R_nonneg {l : List Op} (hl : ∀ o ∈ l, OpOk o) (k : Nat) : 0 ≤ R l k := by
  induction k with
  | zero => exact Int.le_refl _
  | succ k ih =>
    cases h : l[k]? with
    | some o =>
      rw [R_succ h]
      have := hl o (List.mem_of_getElem? h)
      cases o <;> simp only [rd, OpOk] at * <;> omega
    | none =>
      have := List.getElem?_eq_none_iff.mp h
      unfold R at *
      rw [List.take_of_length_le (by omega)]
      rw [List.take_of_length_le this] at ih
      exact ih
/-- the step that wrote a byte -/
theorem W_cross {l : List Op} {x : Int} (h0 : 0 < x) : ∀ {k : Nat}, x ≤ W l k → ∃ j, j < k ∧ W l j < x ∧ x ≤ W l (j + 1)
  | 0, h => by
    have : W l 0 = 0 := rfl
    omega
  | k + 1, h => by
    by_cases q : x ≤ W l k
    · obtain ⟨j, a, b⟩ := W_cross h0 q
      exact ⟨j, by omega, b⟩
    · exact ⟨k, by omega, by omega, h⟩

/-! pieces that are there by a tick -/
def airBy (l : List Pc) (b : Bool) (a : Int) : Int := (l.map fun p => if p.sd = b ∧ p.at_ ≤ a then p.n else 0).sum
theorem airBy_cons (p : Pc) (l : List Pc) (b : Bool) (a : Int) : airBy (p :: l) b a = (if p.sd = b ∧ p.at_ ≤ a then p.n else 0) + airBy l b a := by simp [airBy]
theorem airBy_append (l m : List Pc) (b : Bool) (a : Int) : airBy (l ++ m) b a = airBy l b a + airBy m b a := by simp [airBy]
theorem airBy_perm {A B : List Pc} {b : Bool} {a : Int} (h : A.Perm B) : airBy A b a = airBy B b a := by
  induction h with
  | nil => rfl
  | cons x _ ih => rw [airBy_cons, airBy_cons, ih]
  | swap x y l => simp only [airBy_cons]; omega
  | trans _ _ h1 h2 => rw [h1, h2]
theorem airBy_nonneg {b : Bool} {a : Int} : ∀ {l : List Pc}, (∀ p ∈ l, 0 ≤ p.n) → 0 ≤ airBy l b a
  | [], _ => by simp [airBy]
  | p :: r, h => by
    have h1 := h p (by simp)
    have h2 := airBy_nonneg (b := b) (a := a) (l := r) fun x hx => h x (by simp [hx])
    rw [airBy_cons]; split <;> omega
theorem airBy_le {b : Bool} {a : Int} : ∀ {l : List Pc}, (∀ p ∈ l, 0 ≤ p.n) → airBy l b a ≤ airTot l b
  | [], _ => by simp [airBy, airTot]
  | p :: r, h => by
    have h1 := h p (by simp)
    have h2 := airBy_le (b := b) (a := a) (l := r) fun x hx => h x (by simp [hx])
    rw [airBy_cons, airTot_cons]
    by_cases q : p.sd = b
    · rw [if_pos q]; split <;> omega
    · rw [if_neg q, if_neg (fun z => q z.1)]; omega
theorem airBy_all {b : Bool} {a : Int} : ∀ {l : List Pc}, (∀ p ∈ l, p.at_ ≤ a) → airBy l b a = airTot l b
  | [], _ => by simp [airBy, airTot]
  | p :: r, h => by
    have h1 := h p (by simp)
    have h2 := airBy_all (b := b) (a := a) (l := r) fun x hx => h x (by simp [hx])
    rw [airBy_cons, airTot_cons, h2]
    by_cases q : p.sd = b
    · rw [if_pos q, if_pos ⟨q, h1⟩]
    · rw [if_neg q, if_neg (fun z => q z.1)]
theorem airBy_none {b : Bool} {a : Int} : ∀ {l : List Pc}, (∀ p ∈ l, a < p.at_) → airBy l b a = 0
  | [], _ => by simp [airBy]
  | p :: r, h => by
    have h1 := h p (by simp)
    have h2 := airBy_none (b := b) (a := a) (l := r) fun x hx => h x (by simp [hx])
    rw [airBy_cons, h2, if_neg (by omega)]; rfl
def arr (f : Fl) (b : Bool) (a : Int) : Int := (f.s (!b)).come + airBy f.air b a

/-- what sends leave: the clock, what came, what comes ahead of a new piece, what was written -/
structure Fr (L : Ln) (f g : Fl) : Prop where
  now : g.now = f.now
  come : ∀ d, (g.s d).come = (f.s d).come
  taken : ∀ d, (g.s d).taken = (f.s d).taken
  by_ : ∀ d a, a < f.now + L.way → airBy g.air d a = airBy f.air d a
  sum : ∀ d, (g.s d).out + kept (g.s d) = (f.s d).out + kept (f.s d)
section
variable {L : Ln} {f g h : Fl} {b c d : Bool} {n M t a : Int}
theorem Fr.refl (f : Fl) : Fr L f f := ⟨rfl, fun _ => rfl, fun _ => rfl, fun _ _ _ => rfl, fun _ => rfl⟩
theorem Fr.trans (x : Fr L f g) (y : Fr L g h) : Fr L f h :=
  ⟨y.now.trans x.now, fun d => (y.come d).trans (x.come d), fun d => (y.taken d).trans (x.taken d), fun d a q => (y.by_ d a (by rw [x.now]; exact q)).trans (x.by_ d a q), fun d => (y.sum d).trans (x.sum d)⟩
theorem send_fr (hp : PosL (f.s b).stock) (h0 : 0 ≤ n) (h1 : n ≤ kept (f.s b)) : Fr L f (send L f b n) := by
  refine ⟨rfl, fun d => come_send, fun d => ?_, fun d a q => ?_, fun d => ?_⟩
  · by_cases e : d = b
    · subst e; rw [send_same]; rfl
    · rw [send_ne e]
  · show airBy (f.air ++ [_]) d a = _
    rw [airBy_append, airBy_cons, if_neg (by rintro ⟨_, z⟩; have z' : f.now + L.way ≤ a := z; omega)]
    simp [airBy]
  · by_cases e : d = b
    · subst e; rw [send_same, kept_sent hp h0 h1]
      show (f.s d).out + n + _ = _
      omega
    · rw [send_ne e]
theorem send_pos (hp : ∀ d, PosL (f.s d).stock) : ∀ d, PosL ((send L f b n).s d).stock := fun d => by
  by_cases e : d = b
  · subst e; rw [send_same]; exact fun x hx => (takeOut_mem hx (hp d)).1
  · rw [send_ne e]; exact hp d
theorem goFull_fr (hL : LnOk L) (k : Nat) (hp : ∀ d, PosL (f.s d).stock) : Fr L f (goFull L b k f) ∧ ∀ d, PosL ((goFull L b k f).s d).stock :=
  goFull_ind (L := L) (b := b) (fun g => Fr L f g ∧ ∀ d, PosL (g.s d).stock) (fun g hg q => ⟨hg.1.trans (send_fr (hg.2 b) (by have := hL.size1; omega) q), send_pos hg.2⟩) k f ⟨.refl f, hp⟩
theorem letGo_fr (hL : LnOk L) (hp : ∀ d, PosL (f.s d).stock) : Fr L f (letGo L b f) ∧ ∀ d, PosL ((letGo L b f).s d).stock := by
  obtain ⟨h1, h2⟩ := goFull_fr (b := b) hL (kept (f.s b)).toNat hp
  unfold letGo goSmall
  split
  · rename_i q; exact ⟨h1.trans (send_fr (h2 b) (Int.le_of_lt q.1) (Int.le_refl _)), send_pos h2⟩
  · exact ⟨h1, h2⟩
theorem Fv.pos (h : Fv L f) (d : Bool) : PosL (f.s d).stock := fun e he => (h.a.tk d e he).1
theorem leave1_fr (hp : ∀ d, PosL (f.s d).stock) : Fr L f (leave1 L f b) ∧ ∀ d, PosL ((leave1 L f b).s d).stock := by
  unfold leave1
  split
  · exact ⟨send_fr (hp b) (Int.le_refl _) (amt_nonneg (hp b)), send_pos hp⟩
  · exact ⟨.refl f, hp⟩
theorem leave_fr (hp : ∀ d, PosL (f.s d).stock) : Fr L f (leave L f) := (leave1_fr hp).1.trans (leave1_fr (leave1_fr hp).2).1
/-- put: as Fr, but for the sum of its side -/
theorem put_fr (hL : LnOk L) (hp : ∀ d, PosL (f.s d).stock) (hn : 0 < n) : Fr L (addStock f b n) (put L f b n) :=
  (letGo_fr hL fun d e he => by
    by_cases q : d = b
    · subst q; rw [addStock_same] at he
      rcases List.mem_append.mp he with r | r
      · exact hp d e r
      · rw [List.mem_singleton.mp r]; exact hn
    · rw [addStock_ne q] at he; exact hp d e he).1

/-! landing -/
theorem arrive_frame (h0 : ∀ p ∈ f.air, 0 ≤ p.n) (ha : t ≤ a) : arr (arrive L f t) d a = arr f d a := by
  have := arrive_ind (L := L) (f := f) (fun g => (∀ p ∈ g.air, 0 ≤ p.n) ∧ arr g d a = arr f d a) t
    (fun g A B hp hg => ⟨fun p hq => hg.1 p (hp.mem_iff.mpr hq), by
      have e := hg.2
      unfold arr at e ⊢
      rw [← airBy_perm hp]
      exact e⟩)
    (fun g p A e hp hg => ⟨fun q hq => hg.1 q (List.mem_cons_of_mem _ hq), by
      have e := hg.2
      have pn : 0 ≤ p.n := hg.1 p List.mem_cons_self
      unfold arr at e ⊢
      rw [← e]
      show ((land L g p).s (!d)).come + airBy A d a = (g.s (!d)).come + airBy (p :: A) d a
      rw [airBy_cons]
      by_cases q : p.sd = d
      · subst q
        rw [land_come_eq pn, if_pos ⟨rfl, by omega⟩]
        omega
      · rw [if_neg (fun z => q z.1)]
        have e : d = !p.sd := bn (fun z => q z.symm)
        subst e
        rw [Bool.not_not, land_sd]
        omega⟩) ⟨h0, rfl⟩
  exact this.2
theorem arrive_keep : ((arrive L f t).s d).stock = (f.s d).stock ∧ ((arrive L f t).s d).out = (f.s d).out ∧ ((arrive L f t).s d).long = (f.s d).long ∧ ((arrive L f t).s d).taken = (f.s d).taken ∧ (f.s d).come ≤ ((arrive L f t).s d).come :=
  arrive_ind (L := L) (f := f) (fun g => (g.s d).stock = (f.s d).stock ∧ (g.s d).out = (f.s d).out ∧ (g.s d).long = (f.s d).long ∧ (g.s d).taken = (f.s d).taken ∧ (f.s d).come ≤ (g.s d).come) t (fun g A B _ hg => hg)
    (fun g p A _ _ hg => ⟨land_keep.1.trans hg.1, land_keep.2.1.trans hg.2.1, land_keep.2.2.2.1.trans hg.2.2.1, land_keep.2.2.2.2.trans hg.2.2.2.1, Int.le_trans hg.2.2.2.2 land_come_le⟩) ⟨rfl, rfl, rfl, rfl, Int.le_refl _⟩
theorem arrive_air {p : Pc} : p ∈ (arrive L f t).air ↔ p ∈ f.air ∧ t < p.at_ := by
  have e : (arrive L f t).air = f.air.filter fun p => decide (p.at_ > t) := by
    unfold arrive
    have : ∀ (l : List Pc) (g : Fl), (l.foldl (land L) g).air = g.air := fun l => by
      induction l with
      | nil => intro g; rfl
      | cons x r ih => intro g; exact ih _
    rw [this]
  rw [e, List.mem_filter]
  constructor
  · rintro ⟨h1, h2⟩; exact ⟨h1, of_decide_eq_true h2⟩
  · rintro ⟨h1, h2⟩; exact ⟨h1, decide_eq_true h2⟩
end

/-! ### the system -/
def prevAt (c : Co) (k : Nat) : Int := if k = 0 then 0 else c.hist (k - 1)
theorem prev_eq (c : Co) : c.prev = prevAt c c.place := rfl
/-- n bytes were written by t -/
def WB (c : Co) (t n : Int) : Prop := ∃ k, k ≤ c.place ∧ (∀ i, i < k → c.hist i ≤ t) ∧ n ≤ W c.steps k
structure Tv (L : Ln) (S : Sy) : Prop where
  t0 : 0 ≤ S.f.now
  t1 : ∀ b, (S.f.s b).out + kept (S.f.s b) = W (S.c b).steps (S.c b).place
  t2 : ∀ b, (S.f.s b).taken = R (S.c b).steps (S.c b).place ∧ (S.f.s b).taken ≤ (S.f.s b).come
  t3 : ∀ b a, S.f.now ≤ a → a < S.f.now + L.way → WB (S.c b) (a - L.way) (arr S.f b a)
  t4 : ∀ b i, i < (S.c b).place → 0 ≤ (S.c b).hist i ∧ (S.c b).hist i ≤ S.f.now
  t5 : ∀ b k, k < (S.c b).place → prevAt (S.c b) k ≤ (S.c b).hist k ∧ (∀ n, (S.c b).steps[k]? = some (.pause n) → prevAt (S.c b) k + n ≤ (S.c b).hist k) ∧
    (∀ n, (S.c b).steps[k]? = some (.read n) → WB (S.c (!b)) ((S.c b).hist k - L.way) (R (S.c b).steps (k + 1)))
  t6 : ∀ b u n, (S.c b).til = some u → (S.c b).steps[(S.c b).place]? = some (.pause n) → (S.c b).prev + n ≤ u
def setC (S : Sy) (b : Bool) (f : Fl) (c : Co) : Sy := ⟨f, fun d => if d = b then c else S.c d⟩
section
variable {L : Ln} {S : Sy} {f g : Fl} {b d : Bool} {n M t a : Int} {c : Co}
theorem setC_c : (setC S b f c).c b = c := if_pos rfl
theorem setC_ne (h : d ≠ b) : (setC S b f c).c d = S.c d := if_neg h
theorem setC_self : setC S b S.f (S.c b) = S := by
  have : (fun d => if d = b then S.c b else S.c d) = S.c := by
    funext d; by_cases q : d = b
    · subst q; simp
    · simp [q]
  unfold setC
  rw [this]
theorem pass_hist {i : Nat} (h : i < c.place) : (c.pass t).hist i = c.hist i := if_neg (by omega)
theorem pass_last : (c.pass t).hist c.place = t := if_pos rfl
theorem pass_prev : (c.pass t).prev = t := by
  unfold Co.prev
  show (if c.place + 1 = 0 then 0 else (c.pass t).hist (c.place + 1 - 1)) = t
  rw [if_neg (by omega), Nat.add_sub_cancel]
  exact pass_last
theorem pass_prevAt {k : Nat} (h : k ≤ c.place) : prevAt (c.pass t) k = prevAt c k := by
  unfold prevAt
  split
  · rfl
  · exact pass_hist (by omega)
theorem WB.pass {x y : Int} (h : WB c x y) : WB (c.pass t) x y := by
  obtain ⟨k, h1, h2, h3⟩ := h
  exact ⟨k, Nat.le_succ_of_le h1, fun i hi => by rw [pass_hist (by omega)]; exact h2 i hi, h3⟩
theorem WB.mono {x y z : Int} (h : WB c x y) (e : z ≤ y) : WB c x z := by
  obtain ⟨k, h1, h2, h3⟩ := h
  exact ⟨k, h1, h2, by omega⟩
theorem WB.later {x y z : Int} (h : WB c x y) (e : x ≤ z) : WB c z y := by
  obtain ⟨k, h1, h2, h3⟩ := h
  exact ⟨k, h1, fun i hi => Int.le_trans (h2 i hi) e, h3⟩
theorem Fr.arr (x : Fr L f g) (h : a < f.now + L.way) : arr g d a = Sh.arr f d a := by
  unfold Sh.arr
  rw [x.come, x.by_ d a h]
theorem Tv.frame (h : Tv L S) (x : Fr L S.f g) : Tv L ⟨g, S.c⟩ := by
  refine ⟨?_, fun b => ?_, fun b => ?_, fun b a h1 h2 => ?_, fun b i hi => ?_, h.t5, h.t6⟩
  · show 0 ≤ g.now
    rw [x.now]; exact h.t0
  · show (g.s b).out + kept (g.s b) = _
    rw [x.sum]; exact h.t1 b
  · show (g.s b).taken = _ ∧ (g.s b).taken ≤ (g.s b).come
    rw [x.taken, x.come]; exact h.t2 b
  · have h1' : g.now ≤ a := h1
    have h2' : a < g.now + L.way := h2
    rw [x.now] at h1' h2'
    show WB (S.c b) (a - L.way) (arr g b a)
    rw [x.arr h2']
    exact h.t3 b a h1' h2'
  · show _ ∧ _ ≤ g.now
    rw [x.now]; exact h.t4 b i hi
/-- a step that passes: the flow's part is given, the course's is the same for all -/
theorem Tv.passed (h : Tv L S) (hc : b = b) (now : g.now = S.f.now)
    (h1 : (g.s b).out + kept (g.s b) = W (S.c b).steps ((S.c b).place + 1)) (h1' : (g.s (!b)).out + kept (g.s (!b)) = (S.f.s (!b)).out + kept (S.f.s (!b)))
    (h2 : (g.s b).taken = R (S.c b).steps ((S.c b).place + 1) ∧ (g.s b).taken ≤ (g.s b).come) (h2' : (g.s (!b)).taken = (S.f.s (!b)).taken)
    (hco : ∀ d, (g.s d).come = (S.f.s d).come) (hby : ∀ d a, a < S.f.now + L.way → airBy g.air d a = airBy S.f.air d a)
    (hp : ∀ n, (S.c b).steps[(S.c b).place]? = some (.pause n) → (S.c b).prev + n ≤ S.f.now)
    (hr : ∀ n, (S.c b).steps[(S.c b).place]? = some (.read n) → WB (S.c (!b)) (S.f.now - L.way) (R (S.c b).steps ((S.c b).place + 1))) : Tv L (setC S b g ((S.c b).pass S.f.now)) := by
  have harr : ∀ d a, a < S.f.now + L.way → arr g d a = arr S.f d a := fun d a q => by unfold arr; rw [hco, hby d a q]
  have nn : (setC S b g ((S.c b).pass S.f.now)).c (!b) = S.c (!b) := setC_ne nb
  have pv : (S.c b).prev ≤ S.f.now := by
    unfold Co.prev
    split
    · exact h.t0
    · exact (h.t4 b _ (by omega)).2
  refine ⟨?_, fun d => ?_, fun d => ?_, fun d a q1 q2 => ?_, fun d i hi => ?_, fun d k hk => ?_, fun d u n hu hn => ?_⟩
  · show 0 ≤ g.now
    rw [now]; exact h.t0
  · by_cases q : d = b
    · subst q; rw [setC_c]; exact h1
    · rw [setC_ne q]; obtain rfl := bn q
      show (g.s (!b)).out + kept (g.s (!b)) = _
      rw [h1']; exact h.t1 (!b)
  · by_cases q : d = b
    · subst q; rw [setC_c]; exact h2
    · rw [setC_ne q]; obtain rfl := bn q
      show (g.s (!b)).taken = _ ∧ (g.s (!b)).taken ≤ (g.s (!b)).come
      rw [h2', hco]; exact h.t2 (!b)
  · have q1' : g.now ≤ a := q1
    have q2' : a < g.now + L.way := q2
    rw [now] at q1' q2'
    show WB ((setC S b g ((S.c b).pass S.f.now)).c d) (a - L.way) (arr g d a)
    rw [harr d a q2']
    have o := h.t3 d a q1' q2'
    by_cases q : d = b
    · subst q; rw [setC_c]; exact o.pass
    · rw [setC_ne q]; exact o
  · show _ ∧ _ ≤ g.now
    rw [now]
    by_cases q : d = b
    · subst q; rw [setC_c] at hi ⊢
      by_cases z : i = (S.c d).place
      · subst z; rw [pass_last]; exact ⟨h.t0, Int.le_refl _⟩
      · have hi' : i < (S.c d).place + 1 := hi
        rw [pass_hist (by omega)]; exact h.t4 d i (by omega)
    · rw [setC_ne q] at hi ⊢; exact h.t4 d i hi
  · by_cases q : d = b
    · subst q; rw [setC_c] at hk ⊢
      rw [nn]
      have hk' : k < (S.c d).place + 1 := hk
      by_cases z : k = (S.c d).place
      · subst z; rw [pass_last, pass_prevAt (Nat.le_refl _)]
        exact ⟨pv, hp, hr⟩
      · rw [pass_hist (by omega), pass_prevAt (by omega)]; exact h.t5 d k (by omega)
    · rw [setC_ne q] at hk ⊢
      obtain ⟨o1, o2, o3⟩ := h.t5 d k hk
      refine ⟨o1, o2, fun n hn => ?_⟩
      have e : (!d) = b := by obtain rfl := bn q; exact Bool.not_not b
      rw [e, setC_c]
      have o := o3 n hn
      rw [e] at o
      exact o.pass
  · by_cases q : d = b
    · subst q; rw [setC_c] at hu; cases hu
    · rw [setC_ne q] at hu hn ⊢; exact h.t6 d u n hu hn
/-- one step of side b -/
theorem doStep_tv (hL : LnOk L) (hc : CoOk (S.c b)) (h : Tv L S) (hf : Fv L S.f) : Tv L (setC S b (doStep L b S.f (S.c b)).1 (doStep L b S.f (S.c b)).2.1) := by
  have hw := hL.way1
  unfold doStep
  split
  · rename_i n e
    have hn : 0 < n := hc.ops _ (List.mem_of_getElem? e)
    have x := put_fr (b := b) hL hf.pos hn
    have eW : W (S.c b).steps ((S.c b).place + 1) = W (S.c b).steps (S.c b).place + n := W_succ e
    have eR : R (S.c b).steps ((S.c b).place + 1) = R (S.c b).steps (S.c b).place + 0 := R_succ e
    refine h.passed rfl put_now ?_ ?_ ?_ ?_ (fun d => (x.come d).trans add_s.1) (fun d a q => x.by_ d a q) (fun m z => by rw [e] at z; cases z) (fun m z => by rw [e] at z; cases z)
    · show ((put L S.f b n).s b).out + kept ((put L S.f b n).s b) = _
      rw [x.sum b, add_s.2.2.2.1, kept_add, eW]
      have := h.t1 b
      omega
    · show ((put L S.f b n).s (!b)).out + _ = _
      rw [put_ne nb]
    · show ((put L S.f b n).s b).taken = _ ∧ ((put L S.f b n).s b).taken ≤ ((put L S.f b n).s b).come
      rw [x.taken, x.come, add_s.1, add_s.2.2.2.2.2.2, eR, Int.add_zero]
      exact h.t2 b
    · show ((put L S.f b n).s (!b)).taken = _
      rw [put_ne nb]
  · rename_i n e
    have hn : 0 < n := hc.ops _ (List.mem_of_getElem? e)
    have eW : W (S.c b).steps ((S.c b).place + 1) = W (S.c b).steps (S.c b).place + 0 := W_succ e
    have eR : R (S.c b).steps ((S.c b).place + 1) = R (S.c b).steps (S.c b).place + n := R_succ e
    split
    · rw [setC_self]; exact h
    · rename_i q
      have t2 := h.t2 b
      have us : ∀ d, (upS S.f.s b { S.f.s b with taken := (S.f.s b).taken + n } d).come = (S.f.s d).come := fun d => by
        by_cases z : d = b
        · subst z; rw [upS_same]
        · rw [upS_ne z]
      refine h.passed rfl rfl ?_ ?_ ?_ ?_ us (fun d a q => rfl) (fun m z => by rw [e] at z; cases z) (fun m z => ?_)
      · show (upS S.f.s b _ b).out + kept (upS S.f.s b _ b) = _
        rw [upS_same, eW, Int.add_zero]
        exact h.t1 b
      · show (upS S.f.s b { S.f.s b with taken := (S.f.s b).taken + n } (!b)).out + kept (upS S.f.s b { S.f.s b with taken := (S.f.s b).taken + n } (!b)) = _
        rw [upS_not]
      · show (upS S.f.s b _ b).taken = _ ∧ (upS S.f.s b _ b).taken ≤ (upS S.f.s b _ b).come
        rw [upS_same, eR]
        show (S.f.s b).taken + n = _ ∧ (S.f.s b).taken + n ≤ (S.f.s b).come
        omega
      · show (upS S.f.s b _ (!b)).taken = _
        rw [upS_not]
      · have o := h.t3 (!b) S.f.now (Int.le_refl _) (by omega)
        refine o.mono ?_
        unfold arr
        rw [Bool.not_not, eR]
        have := airBy_nonneg (b := !b) (a := S.f.now) fun p hp => (hf.a.air p hp).1
        omega
  · rename_i n e
    have eW : W (S.c b).steps ((S.c b).place + 1) = W (S.c b).steps (S.c b).place + 0 := W_succ e
    have eR : R (S.c b).steps ((S.c b).place + 1) = R (S.c b).steps (S.c b).place + 0 := R_succ e
    have hn : 0 ≤ n := hc.ops _ (List.mem_of_getElem? e)
    have pv : (S.c b).prev ≤ S.f.now := by
      unfold Co.prev
      split
      · exact h.t0
      · exact (h.t4 b _ (by omega)).2
    split
    · rename_i q
      refine ⟨h.t0, fun d => ?_, fun d => ?_, fun d a => ?_, fun d => ?_, fun d => ?_, fun d u m hu hm => ?_⟩
      · by_cases z : d = b
        · subst z; rw [setC_c]; exact h.t1 d
        · rw [setC_ne z]; exact h.t1 d
      · by_cases z : d = b
        · subst z; rw [setC_c]; exact h.t2 d
        · rw [setC_ne z]; exact h.t2 d
      · by_cases z : d = b
        · subst z; rw [setC_c]; exact h.t3 d a
        · rw [setC_ne z]; exact h.t3 d a
      · by_cases z : d = b
        · subst z; rw [setC_c]; exact h.t4 d
        · rw [setC_ne z]; exact h.t4 d
      · by_cases z : d = b
        · subst z; rw [setC_c, setC_ne nb]; exact h.t5 d
        · rw [setC_ne z]
          have e2 : (!d) = b := by obtain rfl := bn z; exact Bool.not_not b
          rw [e2, setC_c]
          have o := h.t5 d
          rw [e2] at o
          exact o
      · by_cases z : d = b
        · subst z; rw [setC_c] at hu hm ⊢
          have hm' : (S.c d).steps[(S.c d).place]? = some (.pause m) := hm
          rw [e] at hm'; cases hm'
          have hu' : (S.c d).til.getD (S.f.now + n) = u := Option.some.inj hu
          show (S.c d).prev + n ≤ u
          cases r : (S.c d).til with
          | none => rw [r] at hu'; simp at hu'; omega
          | some v =>
            rw [r] at hu'
            have := h.t6 d v n r e
            simp at hu'; omega
        · rw [setC_ne z] at hu hm ⊢; exact h.t6 d u m hu hm
    · rename_i q
      refine h.passed rfl rfl (by rw [eW, Int.add_zero]; exact h.t1 b) rfl (by rw [eR, Int.add_zero]; exact h.t2 b) rfl (fun d => rfl) (fun d a q => rfl) (fun m z => ?_) (fun m z => by rw [e] at z; cases z)
      rw [e] at z; cases z
      cases r : (S.c b).til with
      | none => rw [r] at q; simp at q; omega
      | some v =>
        rw [r] at q
        have := h.t6 b v n r e
        simp at q; omega
  · rw [setC_self]; exact h
end
end Sh

namespace Sh
/-! Ticks, the plain line, and what the law asks. -/
section
variable {L : Ln} {S : Sy} {f g : Fl} {b d : Bool} {n M t a : Int} {c : Co}
theorem read_s (f : Fl) (b : Bool) (n : Int) (d : Bool) : ((upS f.s b { f.s b with taken := (f.s b).taken + n }) d).stock = (f.s d).stock ∧ ((upS f.s b { f.s b with taken := (f.s b).taken + n }) d).out = (f.s d).out ∧
    ((upS f.s b { f.s b with taken := (f.s b).taken + n }) d).known = (f.s d).known ∧ ((upS f.s b { f.s b with taken := (f.s b).taken + n }) d).small = (f.s d).small ∧
    ((upS f.s b { f.s b with taken := (f.s b).taken + n }) d).come = (f.s d).come ∧ ((upS f.s b { f.s b with taken := (f.s b).taken + n }) d).first = (f.s d).first ∧ ((upS f.s b { f.s b with taken := (f.s b).taken + n }) d).long = (f.s d).long := by
  by_cases z : d = b
  · subst z; rw [upS_same]; exact ⟨rfl, rfl, rfl, rfl, rfl, rfl, rfl⟩
  · rw [upS_ne z]; exact ⟨rfl, rfl, rfl, rfl, rfl, rfl, rfl⟩
/-- Fv looks at these alone -/
theorem Fv.of (h : Fv L f) (e1 : g.now = f.now) (e2 : g.air = f.air) (e3 : ∀ d, (g.s d).stock = (f.s d).stock ∧ (g.s d).out = (f.s d).out ∧ (g.s d).known = (f.s d).known ∧ (g.s d).small = (f.s d).small ∧ (g.s d).come = (f.s d).come ∧ (g.s d).first = (f.s d).first ∧ (g.s d).long = (f.s d).long) : Fv L g := by
  refine ⟨⟨fun d e he => ?_, fun p hq => ?_, fun d => ?_, fun d => ?_, fun d => ?_, fun d u hu => ?_, fun d hu => ?_⟩, fun d e he => ?_, fun d => ?_⟩
  · rw [(e3 d).1] at he; rw [e1]; exact h.a.tk d e he
  · rw [e2] at hq; rw [e1, (e3 _).2.2.2.2.1]; exact h.a.air p hq
  · rw [(e3 (!d)).2.2.2.2.1, e2, (e3 d).2.1]; exact h.a.sum d
  · rw [(e3 (!d)).2.2.2.2.1, (e3 d).2.2.1]; exact h.a.known d
  · rw [(e3 d).2.2.2.1, (e3 d).2.1]; exact h.a.small d
  · rw [(e3 d).2.2.2.2.2.1] at hu; rw [e1]; exact h.a.first d u hu
  · rw [(e3 d).2.2.2.2.2.1] at hu; rw [(e3 d).2.2.2.2.1, (e3 (!d)).2.2.1, e2]; exact h.a.ack d hu
  · rw [(e3 d).1] at he
    have o := h.h d e he
    refine ⟨fun p hp => ?_, fun u hu => ?_, fun hu => ?_, by rw [e1]; exact o.h4⟩
    · rw [e2] at hp; exact o.h1 p hp
    · rw [(e3 (!d)).2.2.2.2.2.1] at hu; exact o.h2 u hu
    · rw [(e3 (!d)).2.2.2.2.2.1] at hu; rw [(e3 (!d)).2.2.2.2.1, (e3 d).2.2.1, e2]; exact o.h3 hu
  · rw [(e3 d).2.2.2.2.2.2]; exact h.long d
/-- what holds all through a tick -/
structure Mid (L : Ln) (S : Sy) : Prop where
  co : ∀ b, CoOk (S.c b)
  tv : Tv L S
  fv : Fv L S.f
  blk : ∀ b, Blk L S.f b
theorem doStep_co (hc : CoOk c) : CoOk (doStep L b f c).2.1 := by
  unfold doStep
  split
  · rename_i n e; exact pass_ok hc e
  · rename_i n e
    split
    · exact hc
    · exact pass_ok hc e
  · rename_i n e
    split
    · exact ⟨hc.ops, hc.le, fun u _ => ⟨n, e⟩⟩
    · exact pass_ok hc e
  · exact hc
theorem doStep_fv (hL : LnOk L) (hc : CoOk c) (hf : Fv L f) (hb : ∀ d, Blk L f d) : Fv L (doStep L b f c).1 ∧ ∀ d, Blk L (doStep L b f c).1 d := by
  unfold doStep
  split
  · rename_i n e
    have hn : 0 < n := hc.ops _ (List.mem_of_getElem? e)
    refine ⟨put_fv hL hf (hb b) hn, fun d => ?_⟩
    by_cases q : d = b
    · subst q; exact put_blk hL hf hn
    · have e : (put L f b n).s d = f.s d := put_ne q
      exact (hb d).of (by rw [e]) (by rw [e]) (by rw [e]) (by rw [e])
  · rename_i n e
    split
    · exact ⟨hf, hb⟩
    · have r := read_s f b n
      exact ⟨hf.of rfl rfl r, fun d => (hb d).of (r d).1 (r d).2.1 (r d).2.2.1 (r d).2.2.2.1⟩
  · split <;> exact ⟨hf, hb⟩
  · exact ⟨hf, hb⟩
theorem setC_setC {f' : Fl} {c' : Co} : setC (setC S b f c) b f' c' = setC S b f' c' := by
  unfold setC
  simp only
  congr 1
  funext d
  by_cases q : d = b <;> simp [q]
theorem doStep_mid (hL : LnOk L) (h : Mid L S) : Mid L (setC S b (doStep L b S.f (S.c b)).1 (doStep L b S.f (S.c b)).2.1) := by
  obtain ⟨h1, h2⟩ := doStep_fv (b := b) hL (h.co b) h.fv h.blk
  refine ⟨fun d => ?_, doStep_tv hL (h.co b) h.tv h.fv, h1, h2⟩
  by_cases q : d = b
  · subst q; rw [setC_c]; exact doStep_co (h.co d)
  · rw [setC_ne q]; exact h.co d
theorem goOn_ind (P : Fl → Co → Prop) (hs : ∀ f c, P f c → P (doStep L b f c).1 (doStep L b f c).2.1) : ∀ (k : Nat) (f : Fl) (c : Co), P f c → P (goOn L b k f c).1 (goOn L b k f c).2
  | 0, f, c, h => by unfold goOn; exact h
  | k + 1, f, c, h => by
    unfold goOn
    split
    · exact goOn_ind P hs k _ _ (hs f c h)
    · exact hs f c h
/-- an invariant of single steps goes through a side's steps of a tick -/
theorem go1_ind (P : Sy → Prop) (hs : ∀ S, P S → P (setC S b (doStep L b S.f (S.c b)).1 (doStep L b S.f (S.c b)).2.1)) (h : P S) : P (go1 L b S) := by
  have := goOn_ind (L := L) (b := b) (fun f c => P (setC S b f c)) (fun f c h => by
    have o := hs _ h
    rw [setC_c, setC_setC] at o
    exact o) ((S.c b).steps.length - (S.c b).place + 1) S.f (S.c b) (by rw [setC_self]; exact h)
  exact this
theorem doStep_write {n : Int} (e : c.steps[c.place]? = some (.write n)) : doStep L b f c = (put L f b n, c.pass f.now, true) := by
  unfold doStep; rw [e]
theorem doStep_read0 {n : Int} (e : c.steps[c.place]? = some (.read n)) (q : (f.s b).come - (f.s b).taken < n) : doStep L b f c = (f, c, false) := by
  unfold doStep; rw [e]; simp only; rw [if_pos q]
theorem doStep_read1 {n : Int} (e : c.steps[c.place]? = some (.read n)) (q : ¬ (f.s b).come - (f.s b).taken < n) :
    doStep L b f c = ({ f with s := upS f.s b { f.s b with taken := (f.s b).taken + n } }, c.pass f.now, true) := by
  unfold doStep; rw [e]; simp only; rw [if_neg q]
theorem doStep_pause0 {n : Int} (e : c.steps[c.place]? = some (.pause n)) (q : f.now < c.til.getD (f.now + n)) : doStep L b f c = (f, { c with til := some (c.til.getD (f.now + n)) }, false) := by
  unfold doStep; rw [e]; simp only; rw [if_pos q]
theorem doStep_pause1 {n : Int} (e : c.steps[c.place]? = some (.pause n)) (q : ¬ f.now < c.til.getD (f.now + n)) : doStep L b f c = (f, c.pass f.now, true) := by
  unfold doStep; rw [e]; simp only; rw [if_neg q]
theorem doStep_none (e : c.steps[c.place]? = none) : doStep L b f c = (f, c, false) := by
  unfold doStep; rw [e]
/-- what a side waits for behind a tick -/
def Stp (f : Fl) (b : Bool) (c : Co) : Prop := ∀ o, c.steps[c.place]? = some o → (∀ n, o ≠ .write n) ∧ (∀ n, o = .read n → (f.s b).come - (f.s b).taken < n) ∧ (∀ n, o = .pause n → c.til ≠ none)
theorem doStep_stp (h : (doStep L b f c).2.2 = false) : Stp (doStep L b f c).1 b (doStep L b f c).2.1 := by
  cases e : c.steps[c.place]? with
  | none =>
    rw [doStep_none e]
    intro o ho
    have ho' : c.steps[c.place]? = some o := ho
    rw [e] at ho'; cases ho'
  | some o =>
    cases o with
    | write n => rw [doStep_write e] at h; cases h
    | read n =>
      by_cases q : (f.s b).come - (f.s b).taken < n
      · rw [doStep_read0 e q]
        intro o ho
        have ho' : c.steps[c.place]? = some o := ho
        rw [e] at ho'; cases ho'
        exact ⟨fun m z => (nomatch z), fun m z => (by cases z; exact q), fun m z => (nomatch z)⟩
      · rw [doStep_read1 e q] at h; cases h
    | pause n =>
      by_cases q : f.now < c.til.getD (f.now + n)
      · rw [doStep_pause0 e q]
        intro o ho
        have ho' : c.steps[c.place]? = some o := ho
        rw [e] at ho'; cases ho'
        exact ⟨fun m z => (nomatch z), fun m z => (nomatch z), fun m z => (by intro y; cases y)⟩
      · rw [doStep_pause1 e q] at h; cases h
theorem doStep_place (h : (doStep L b f c).2.2 = true) : (doStep L b f c).2.1.place = c.place + 1 ∧ (doStep L b f c).2.1.steps = c.steps ∧ c.place < c.steps.length := by
  unfold doStep at h ⊢
  split at h
  · rename_i n e; exact ⟨rfl, rfl, (List.getElem?_eq_some_iff.mp e).1⟩
  · rename_i n e
    split at h
    · cases h
    · rename_i q; rw [if_neg q]; exact ⟨rfl, rfl, (List.getElem?_eq_some_iff.mp e).1⟩
  · rename_i n e
    split at h
    · cases h
    · rename_i q; rw [if_neg q]; exact ⟨rfl, rfl, (List.getElem?_eq_some_iff.mp e).1⟩
  · cases h
theorem goOn_stp : ∀ (k : Nat) (f : Fl) (c : Co), c.steps.length - c.place < k → Stp (goOn L b k f c).1 b (goOn L b k f c).2
  | 0, f, c, h => by omega
  | k + 1, f, c, h => by
    unfold goOn
    split
    · rename_i q
      obtain ⟨h1, h2, h3⟩ := doStep_place q
      exact goOn_stp k _ _ (by rw [h1, h2]; omega)
    · rename_i q
      exact doStep_stp (by simpa using q)
theorem go1_stp : Stp (go1 L b S).f b ((go1 L b S).c b) := by
  rw [go1_c]
  exact goOn_stp _ _ _ (by omega)
theorem doStep_steps : (doStep L b f c).2.1.steps = c.steps := by
  unfold doStep
  split
  · rfl
  · split <;> rfl
  · split <;> rfl
  · rfl
theorem doStep_other (h : d ≠ b) : ((doStep L b f c).1.s d).come = (f.s d).come ∧ ((doStep L b f c).1.s d).taken = (f.s d).taken := by
  unfold doStep
  split
  · show ((put L f b _).s d).come = _ ∧ _
    rw [put_ne h]; exact ⟨rfl, rfl⟩
  · rename_i n e
    split
    · exact ⟨rfl, rfl⟩
    · show (upS f.s b _ d).come = _ ∧ (upS f.s b _ d).taken = _
      rw [upS_ne h]; exact ⟨rfl, rfl⟩
  · split <;> exact ⟨rfl, rfl⟩
  · exact ⟨rfl, rfl⟩
theorem go1_other (h : d ≠ b) : ((go1 L b S).f.s d).come = (S.f.s d).come ∧ ((go1 L b S).f.s d).taken = (S.f.s d).taken :=
  go1_ind (L := L) (b := b) (S := S) (fun T => (T.f.s d).come = (S.f.s d).come ∧ (T.f.s d).taken = (S.f.s d).taken) (fun T hT => ⟨(doStep_other h).1.trans hT.1, (doStep_other h).2.trans hT.2⟩) ⟨rfl, rfl⟩
theorem go1_steps : ((go1 L b S).c d).steps = (S.c d).steps :=
  go1_ind (L := L) (b := b) (S := S) (fun T => (T.c d).steps = (S.c d).steps) (fun T hT => by
    by_cases q : d = b
    · subst q; rw [setC_c, doStep_steps]; exact hT
    · rw [setC_ne q]; exact hT) rfl

/-! the end of a tick -/
structure End (L : Ln) (S : Sy) : Prop where
  mid : Mid L S
  stp : ∀ b, Stp S.f b (S.c b)
  gt : ∀ u ∈ evs L S, S.f.now < u
theorem begin_fr (hL : LnOk L) (hp : ∀ d, PosL (f.s d).stock) : Fr L (arrive L f t) (begin_ L f t) := by
  have hp' : ∀ d, PosL ((arrive L f t).s d).stock := fun d => by rw [arrive_stock]; exact hp d
  have h1 := letGo_fr (b := false) hL hp'
  exact h1.1.trans (letGo_fr (b := true) hL h1.2).1
/-- pieces are under way to later ticks only -/
def Fut (f : Fl) : Prop := ∀ p ∈ f.air, f.now < p.at_
theorem send_fut (hL : LnOk L) (h : Fut f) : Fut (send L f b n) := by
  intro p hp
  rcases List.mem_append.mp hp with q | q
  · exact h p q
  · rw [List.mem_singleton.mp q]
    have := hL.way1
    show f.now < f.now + L.way
    omega
theorem letGo_fut (hL : LnOk L) (h : Fut f) : Fut (letGo L b f) := by
  unfold letGo goSmall
  have h1 : Fut (goFull L b (kept (f.s b)).toNat f) := goFull_ind (L := L) (b := b) Fut (fun g hg _ => send_fut hL hg) _ _ h
  split
  · exact send_fut hL h1
  · exact h1
theorem begin_fut (hL : LnOk L) : Fut (begin_ L f t) := letGo_fut hL (letGo_fut hL fun p hp => by rw [arrive_now]; exact (arrive_air.mp hp).2)
theorem doStep_fut (hL : LnOk L) (h : Fut f) : Fut (doStep L b f c).1 := by
  unfold doStep
  split
  · exact letGo_fut hL h
  · split <;> exact h
  · split <;> exact h
  · exact h
theorem go1_fut (hL : LnOk L) (h : Fut S.f) : Fut (go1 L b S).f := go1_ind (L := L) (b := b) (S := S) (fun T => Fut T.f) (fun T hT => doStep_fut hL hT) h
theorem leave1_fut (hL : LnOk L) (h : Fut f) : Fut (leave1 L f b) := by
  unfold leave1
  split
  · exact send_fut hL h
  · exact h
/-- behind a side's steps its pause, if it has one, is not over -/
theorem doStep_til (hc : CoOk c) (h : (doStep L b f c).2.2 = false) : ∀ u, (doStep L b f c).2.1.til = some u → f.now < u := by
  intro u hu
  cases e : c.steps[c.place]? with
  | none =>
    rw [doStep_none e] at hu
    obtain ⟨m, e2⟩ := hc.til u hu
    rw [e] at e2; cases e2
  | some o =>
    cases o with
    | write n => rw [doStep_write e] at h; cases h
    | read n =>
      by_cases q : (f.s b).come - (f.s b).taken < n
      · rw [doStep_read0 e q] at hu
        obtain ⟨m, e2⟩ := hc.til u hu
        rw [e] at e2; cases e2
      · rw [doStep_read1 e q] at h; cases h
    | pause n =>
      by_cases q : f.now < c.til.getD (f.now + n)
      · rw [doStep_pause0 e q] at hu
        have : c.til.getD (f.now + n) = u := Option.some.inj hu
        rw [this] at q; exact q
      · rw [doStep_pause1 e q] at h; cases h
theorem goOn_til : ∀ (k : Nat) (f : Fl) (c : Co), CoOk c → c.steps.length - c.place < k → ∀ u, (goOn L b k f c).2.til = some u → f.now < u
  | 0, f, c, _, h => by omega
  | k + 1, f, c, hc, h => by
    unfold goOn
    split
    · rename_i q
      obtain ⟨h1, h2, h3⟩ := doStep_place q
      have := goOn_til k (doStep L b f c).1 (doStep L b f c).2.1 (doStep_co hc) (by rw [h1, h2]; omega)
      rw [doStep_now] at this
      exact this
    · rename_i q
      exact doStep_til hc (by simpa using q)
theorem go1_til2 (hc : CoOk (S.c b)) : ∀ u, ((go1 L b S).c b).til = some u → S.f.now < u := by
  rw [go1_c]
  exact goOn_til _ _ _ hc (by omega)
/-- from a state to the ticks' next one -/
structure Nxt (L : Ln) (S : Sy) (t : Int) : Prop where
  co : ∀ b, CoOk (S.c b)
  tv : Tv L S
  fv : Fv L { S.f with now := t }
  fv0 : Fv L S.f
  kp : ∀ b, kept (S.f.s b) < L.size
  le : S.f.now ≤ t
theorem arrive_tv (h : Nxt L S t) : Tv L ⟨arrive L S.f t, S.c⟩ := by
  have h0 : ∀ p ∈ S.f.air, 0 ≤ p.n := fun p hp => (h.fv0.a.air p hp).1
  have hle := h.le
  have hT := h.tv
  refine ⟨?_, fun b => ?_, fun b => ?_, fun b a q1 q2 => ?_, fun b i hi => ?_, hT.t5, hT.t6⟩
  · show 0 ≤ (arrive L S.f t).now
    rw [arrive_now]; have := hT.t0; omega
  · show ((arrive L S.f t).s b).out + kept ((arrive L S.f t).s b) = _
    unfold kept
    rw [arrive_keep.1, arrive_keep.2.1]; exact hT.t1 b
  · show ((arrive L S.f t).s b).taken = _ ∧ ((arrive L S.f t).s b).taken ≤ ((arrive L S.f t).s b).come
    rw [arrive_keep.2.2.2.1]
    exact ⟨(hT.t2 b).1, Int.le_trans (hT.t2 b).2 arrive_keep.2.2.2.2⟩
  · have q1' : (arrive L S.f t).now ≤ a := q1
    have q2' : a < (arrive L S.f t).now + L.way := q2
    rw [arrive_now] at q1' q2'
    show WB (S.c b) (a - L.way) (arr (arrive L S.f t) b a)
    rw [arrive_frame h0 q1']
    by_cases z : a < S.f.now + L.way
    · exact hT.t3 b a (by omega) z
    · refine ⟨(S.c b).place, Nat.le_refl _, fun i hi => ?_, ?_⟩
      · have := hT.t4 b i hi; omega
      · have s1 := h.fv0.a.sum b
        have s2 := airBy_le (b := b) (a := a) h0
        have s3 := hT.t1 b
        have s4 : 0 ≤ kept (S.f.s b) := amt_nonneg (h.fv0.pos b)
        unfold arr
        omega
  · show _ ∧ _ ≤ (arrive L S.f t).now
    rw [arrive_now]
    have := hT.t4 b i hi
    show 0 ≤ (S.c b).hist i ∧ (S.c b).hist i ≤ t
    omega
theorem tickIn_mid (hL : LnOk L) (h : Nxt L S t) : Mid L (tickIn L S t) := by
  obtain ⟨h1, h2⟩ := begin_fv hL h.fv h.kp
  exact ⟨h.co, (arrive_tv h).frame (begin_fr hL h.fv0.pos), h1, h2⟩
theorem go1_mid (hL : LnOk L) (h : Mid L S) : Mid L (go1 L b S) := go1_ind (L := L) (b := b) (Mid L) (fun S hS => doStep_mid hL hS) h
theorem Stp.of (h : Stp f b c) (e1 : (g.s b).come = (f.s b).come) (e2 : (g.s b).taken = (f.s b).taken) : Stp g b c := by
  intro o ho
  obtain ⟨h1, h2, h3⟩ := h o ho
  exact ⟨h1, by rw [e1, e2]; exact h2, h3⟩
theorem due_not (hL : LnOk L) (h : isDue L f b = false) : ∀ u, (f.s b).first = some u → f.now < u + (L.st b).delay := by
  intro u hu
  unfold isDue at h
  rw [hu] at h
  simp at h
  omega
theorem leave1_first (hL : LnOk L) : ∀ u, ((leave1 L f b).s b).first = some u → f.now < u + (L.st b).delay := by
  intro u hu
  unfold leave1 at hu
  split at hu
  · rw [send_same] at hu; cases hu
  · rename_i q; exact due_not hL (by simpa using q) u hu
theorem doTick_end (hL : LnOk L) (h : Nxt L S t) : End L (doTick L S t) := by
  have m1 := tickIn_mid hL h
  have m2 : Mid L (go1 L false (tickIn L S t)) := go1_mid hL m1
  have m3 : Mid L (tickMid L S t) := go1_mid hL m2
  have s2 : Stp (go1 L false (tickIn L S t)).f false ((go1 L false (tickIn L S t)).c false) := go1_stp
  have s3 : Stp (tickMid L S t).f true ((tickMid L S t).c true) := go1_stp
  have s2' : Stp (tickMid L S t).f false ((tickMid L S t).c false) := by
    have e : (tickMid L S t).c false = (go1 L false (tickIn L S t)).c false := go1_ne (by decide)
    rw [e]
    have o := go1_other (L := L) (S := go1 L false (tickIn L S t)) (b := true) (d := false) (by decide)
    exact s2.of o.1 o.2
  have fr := leave_fr (L := L) m3.fv.pos
  have nw : (leave L (tickMid L S t).f).now = t := by rw [leave_now, tickMid_now]
  refine ⟨⟨m3.co, m3.tv.frame fr, leave_fv hL m3.fv, fun b => leave_blk (m3.blk b)⟩, fun b => ?_, fun u hu => ?_⟩
  · cases b with
    | false => exact s2'.of (fr.come false) (fr.taken false)
    | true => exact s3.of (fr.come true) (fr.taken true)
  · have hn : (doTick L S t).f.now = t := doTick_now
    rw [hn]
    have tf : ∀ u, ((tickMid L S t).c false).til = some u → t < u := fun u hu => by
      have e : (tickMid L S t).c false = (go1 L false (tickIn L S t)).c false := go1_ne (by decide)
      rw [e] at hu
      have := go1_til2 (L := L) (S := tickIn L S t) (b := false) (m1.co false) u hu
      rw [tickIn_now] at this
      exact this
    have tt : ∀ u, ((tickMid L S t).c true).til = some u → t < u := fun u hu => by
      have := go1_til2 (L := L) (S := go1 L false (tickIn L S t)) (b := true) (m2.co true) u hu
      rw [go1_now, tickIn_now] at this
      exact this
    have f1 : Fut (tickMid L S t).f := go1_fut hL (go1_fut hL (begin_fut hL))
    have f2 : Fut (leave L (tickMid L S t).f) := leave1_fut hL (leave1_fut hL f1)
    rcases List.mem_append.mp hu with hu | hu
    · rcases List.mem_append.mp hu with hu | hu
      · have e : ((doTick L S t).c false) = (tickMid L S t).c false := rfl
        rw [e] at hu
        exact tf u (by simpa using hu)
      · have e : ((doTick L S t).c true) = (tickMid L S t).c true := rfl
        rw [e] at hu
        exact tt u (by simpa using hu)
    · rcases List.mem_append.mp hu with hu | hu
      · rcases List.mem_append.mp hu with hu | hu
        · obtain ⟨p, hp, e⟩ := List.mem_map.mp hu
          have := f2 p hp
          rw [nw] at this
          omega
        · have hu' : u ∈ dues L (leave1 L (leave1 L (tickMid L S t).f false) true) false := hu
          unfold dues at hu'
          have e : (leave1 L (leave1 L (tickMid L S t).f false) true).s false = (leave1 L (tickMid L S t).f false).s false := leave1_other (b := true)
          rw [e] at hu'
          cases z : ((leave1 L (tickMid L S t).f false).s false).first with
          | none => rw [z] at hu'; simp at hu'
          | some v =>
            rw [z] at hu'; simp at hu'
            have := leave1_first hL v z
            rw [tickMid_now] at this
            omega
      · have hu' : u ∈ dues L (leave1 L (leave1 L (tickMid L S t).f false) true) true := hu
        unfold dues at hu'
        cases z : ((leave1 L (leave1 L (tickMid L S t).f false) true).s true).first with
        | none => rw [z] at hu'; simp at hu'
        | some v =>
          rw [z] at hu'; simp at hu'
          have := leave1_first hL v z
          rw [leave1_now, tickMid_now] at this
          omega
theorem end_nxt (hL : LnOk L) (h : End L S) (ht : IsMin t (evs L S)) : Nxt L S t := by
  have lt := h.gt t ht.1
  refine ⟨h.mid.co, h.mid.tv, ?_, h.mid.fv, fun b => (h.mid.blk b).1, by omega⟩
  refine tick_fv hL h.mid.fv h.mid.blk (by omega) (fun p hp => ht.2 _ ?_) (fun b u hu => ht.2 _ ?_)
  · exact List.mem_append_right _ (List.mem_append_left _ (List.mem_append_left _ (List.mem_map_of_mem hp)))
  · have q : u + (L.st b).delay ∈ dues L S.f b := by unfold dues; rw [hu]; simp
    cases b with
    | false => exact List.mem_append_right _ (List.mem_append_left _ (List.mem_append_right _ q))
    | true => exact List.mem_append_right _ (List.mem_append_right _ q)
theorem start_nxt (hL : LnOk L) {P : Bool → List Op} (hP : ∀ b, ∀ o ∈ P b, OpOk o) : Nxt L (sy0 P) 0 := by
  have hw := hL.way1
  have hs := hL.size1
  have hd := hL.delay0
  have e : ∀ b, (sy0 P).f.s b = sd0 := fun _ => rfl
  have fv : Fv L (sy0 P).f := by
    refine ⟨⟨fun b e he => (nomatch he), fun p hp => (nomatch hp), fun b => rfl, fun b => Int.le_refl _, fun b => Int.le_refl _, fun b u hu => (by cases hu), fun b _ => .inl (Int.le_refl _)⟩, fun b e he => (nomatch he), fun b => ?_⟩
    have := hd (!b)
    show (0 : Int) ≤ bnd L b
    unfold bnd
    omega
  refine ⟨fun b => ⟨hP b, Nat.zero_le _, fun u h => by cases h⟩, ⟨Int.le_refl _, fun b => rfl, fun b => ⟨rfl, Int.le_refl _⟩, fun b a _ _ => ⟨0, Nat.le_refl _, fun i hi => by omega, Int.le_refl _⟩, fun b i hi => absurd hi (Nat.not_lt_zero _), fun b k hk => absurd hk (Nat.not_lt_zero _), fun b u n hu => by cases hu⟩, fv, fv, fun b => ?_, Int.le_refl _⟩
  show (0 : Int) < L.size
  omega
theorem reach_end (hL : LnOk L) {P : Bool → List Op} (hP : ∀ b, ∀ o ∈ P b, OpOk o) (h : Reach L P S) : End L S := by
  induction h with
  | start => exact doTick_end hL (start_nxt hL hP)
  | step _ ht ih => exact doTick_end hL (end_nxt hL ih ht)
theorem doTick_steps : ((doTick L S t).c d).steps = (S.c d).steps := by
  show ((go1 L true (go1 L false (tickIn L S t))).c d).steps = _
  rw [go1_steps, go1_steps]
  rfl
theorem reach_steps {P : Bool → List Op} (h : Reach L P S) (b : Bool) : (S.c b).steps = P b := by
  induction h with
  | start => rw [doTick_steps]; rfl
  | step _ _ ih => rw [doTick_steps, ih]
end
end Sh

namespace Sh
/-! What the law asks, for runs that have come to their end. -/
structure Done (L : Ln) (P : Bool → List Op) (S : Sy) : Prop where
  reach : Reach L P S
  none : evs L S = []
section
variable {L L' : Ln} {S S' : Sy} {f g : Fl} {b d : Bool} {n M t a : Int} {c : Co} {P : Bool → List Op}
structure Fin (P : Bool → List Op) (S : Sy) : Prop where
  come : ∀ b, (S.f.s (!b)).come = W (P b) (S.c b).place
  taken : ∀ b, (S.f.s b).taken = R (P b) (S.c b).place
  wait : ∀ b, (S.c b).place < (P b).length → ∃ n, (P b)[(S.c b).place]? = some (.read n) ∧ (S.f.s b).come - (S.f.s b).taken < n
  le : ∀ b, (S.c b).place ≤ (P b).length
theorem done_fin (hL : LnOk L) (hP : ∀ b, ∀ o ∈ P b, OpOk o) (h : Done L P S) : Fin P S := by
  have e := reach_end hL hP h.reach
  have st := reach_steps h.reach
  have hn := h.none
  have h1 := List.append_eq_nil_iff.mp hn
  have h2 := List.append_eq_nil_iff.mp h1.1
  have h3 := List.append_eq_nil_iff.mp h1.2
  have h4 := List.append_eq_nil_iff.mp h3.1
  have ha : S.f.air = [] := List.map_eq_nil_iff.mp h4.1
  have hf : ∀ b, (S.f.s b).first = none := fun b => by
    have q : dues L S.f b = [] := by
      cases b with
      | false => exact h4.2
      | true => exact h3.2
    unfold dues at q
    cases z : (S.f.s b).first with
    | none => rfl
    | some u => rw [z] at q; cases q
  have ht : ∀ b, (S.c b).til = none := fun b => by
    cases b with
    | false => cases z : (S.c false).til with
      | none => rfl
      | some u => rw [z] at h2; cases h2.1
    | true => cases z : (S.c true).til with
      | none => rfl
      | some u => rw [z] at h2; cases h2.2
  have hs : ∀ b, (S.f.s (!b)).come = (S.f.s b).out := fun b => by
    have := e.mid.fv.a.sum b
    rw [ha] at this
    simp [airTot] at this
    exact this
  have hk : ∀ b, kept (S.f.s b) = 0 := fun b => by
    have k0 : 0 ≤ kept (S.f.s b) := amt_nonneg (e.mid.fv.pos b)
    by_cases z : 0 < kept (S.f.s b)
    · have l := lets_less e.mid.fv.a ((e.mid.blk b).2 z)
      rcases e.mid.fv.a.ack (!b) (hf _) with r | ⟨p, r, _⟩
      · rw [Bool.not_not, hs] at r; omega
      · rw [ha] at r; cases r
    · omega
  refine ⟨fun b => ?_, fun b => ?_, fun b hb => ?_, fun b => ?_⟩
  · have := e.mid.tv.t1 b
    rw [hk b, st b] at this
    rw [hs]; omega
  · have := (e.mid.tv.t2 b).1
    rw [st b] at this
    exact this
  · have sp := e.stp b
    unfold Stp at sp
    rw [st b] at sp
    have q : (P b)[(S.c b).place]? = some ((P b)[(S.c b).place]'hb) := List.getElem?_eq_getElem hb
    obtain ⟨s1, s2, s3⟩ := sp _ q
    cases z : (P b)[(S.c b).place]'hb with
    | write n => exact absurd z (s1 n)
    | read n => exact ⟨n, by rw [q, z], s2 n z⟩
    | pause n => exact absurd (ht b) (s3 n z)
  · have := (e.mid.co b).le
    rw [st b] at this
    exact this

/-- which steps are done does not hang on the line -/
theorem place_le (hL : LnOk L) (hL' : LnOk L') (hP : ∀ b, ∀ o ∈ P b, OpOk o) (h : Done L P S) (h' : Done L' P S') : ∀ (m : Nat) (b : Bool), ((S.c b).hist (S'.c b).place).toNat ≤ m → ¬ (S'.c b).place < (S.c b).place := by
  have e := reach_end hL hP h.reach
  have st := reach_steps h.reach
  have fn := done_fin hL hP h
  have fn' := done_fin hL' hP h'
  have hw := hL.way1
  intro m
  induction m with
  | zero =>
    intro b hm lt
    obtain ⟨n, e1, e2⟩ := fn'.wait b (Nat.lt_of_lt_of_le lt (fn.le b))
    obtain ⟨_, _, t5⟩ := e.mid.tv.t5 b _ lt
    rw [st b] at t5
    obtain ⟨k, k1, k2, k3⟩ := t5 n e1
    have hR : R (P b) ((S'.c b).place + 1) = R (P b) (S'.c b).place + n := R_succ e1
    have c1 := fn'.come (!b)
    rw [Bool.not_not] at c1
    have c2 := fn'.taken b
    rw [st (!b)] at k3
    have lt2 : (S'.c (!b)).place < k := by
      refine Nat.lt_of_not_le fun z => ?_
      have := W_mono (hP (!b)) z
      omega
    have h0 := (e.mid.tv.t4 b _ lt).1
    have h1 := (e.mid.tv.t4 (!b) (S'.c (!b)).place (by omega)).1
    have h2 := k2 _ lt2
    omega
  | succ m ih =>
    intro b hm lt
    obtain ⟨n, e1, e2⟩ := fn'.wait b (Nat.lt_of_lt_of_le lt (fn.le b))
    obtain ⟨_, _, t5⟩ := e.mid.tv.t5 b _ lt
    rw [st b] at t5
    obtain ⟨k, k1, k2, k3⟩ := t5 n e1
    have hR : R (P b) ((S'.c b).place + 1) = R (P b) (S'.c b).place + n := R_succ e1
    have c1 := fn'.come (!b)
    rw [Bool.not_not] at c1
    have c2 := fn'.taken b
    rw [st (!b)] at k3
    have lt2 : (S'.c (!b)).place < k := by
      refine Nat.lt_of_not_le fun z => ?_
      have := W_mono (hP (!b)) z
      omega
    have h0 := (e.mid.tv.t4 b _ lt).1
    have h1 := (e.mid.tv.t4 (!b) (S'.c (!b)).place (by omega)).1
    have h2 := k2 _ lt2
    exact ih (!b) (by omega) (by omega)
theorem place_eq (hL : LnOk L) (hL' : LnOk L') (hP : ∀ b, ∀ o ∈ P b, OpOk o) (h : Done L P S) (h' : Done L' P S') (b : Bool) : (S.c b).place = (S'.c b).place := by
  have h1 := place_le hL hL' hP h h' _ b (Nat.le_refl _)
  have h2 := place_le hL' hL hP h' h _ b (Nat.le_refl _)
  omega
theorem ended_iff (hL : LnOk L) (hL' : LnOk L') (hP : ∀ b, ∀ o ∈ P b, OpOk o) (h : Done L P S) (h' : Done L' P S') (b : Bool) : (S.c b).ended = none ↔ (S'.c b).ended = none := by
  have e := place_eq hL hL' hP h h' b
  unfold Co.ended
  rw [reach_steps h.reach b, reach_steps h'.reach b, e]
  split <;> simp
theorem unread_eq (hL : LnOk L) (hL' : LnOk L') (hP : ∀ b, ∀ o ∈ P b, OpOk o) (h : Done L P S) (h' : Done L' P S') (b : Bool) : unread S b = unread S' b := by
  have f1 := done_fin hL hP h
  have f2 := done_fin hL' hP h'
  have e := place_eq hL hL' hP h h'
  unfold unread
  have c1 := f1.come (!b)
  have c2 := f2.come (!b)
  rw [Bool.not_not] at c1 c2
  rw [c1, c2, f1.taken, f2.taken, e, e]
theorem held_le (hL : LnOk L) (hP : ∀ b, ∀ o ∈ P b, OpOk o) (h : Done L P S) (b : Bool) : (S.f.s b).long ≤ 2 * L.way + (L.st (!b)).delay := (reach_end hL hP h.reach).mid.fv.long b

/-! ### the plain line -/
def Plain (L : Ln) : Prop := ∀ b, (L.st b).rule = .plain
def P0 (f : Fl) : Prop := ∀ b, (f.s b).stock = [] ∧ (f.s b).long = 0
def Fresh (f : Fl) (b : Bool) : Prop := (∀ e ∈ (f.s b).stock, e.2 = f.now) ∧ (f.s b).long = 0 ∧ PosL (f.s b).stock
theorem send_fresh (h : Fresh f b) : Fresh (send L f b n) b := by
  obtain ⟨h1, h2, h3⟩ := h
  refine ⟨fun e he => ?_, ?_, fun e he => ?_⟩
  · rw [send_same] at he
    obtain ⟨_, e0, q, q'⟩ := takeOut_mem he h3
    rw [q']; exact h1 e0 q
  · rw [send_same]
    show (takeOut f.now (f.s b).stock n (f.s b).long).2 = 0
    have a := takeOut_long (now := f.now) (B := 0) (l := (f.s b).stock) (n := n) (lg := (f.s b).long) (by omega) (fun e he => by have := h1 e he; omega)
    have c := takeOut_long_le (now := f.now) (l := (f.s b).stock) (n := n) (lg := (f.s b).long)
    omega
  · rw [send_same] at he
    exact (takeOut_mem he h3).1
theorem letGo_plain (hr : Plain L) (h : Fresh f b) : ((letGo L b f).s b).stock = [] ∧ ((letGo L b f).s b).long = 0 := by
  have h1 : Fresh (goFull L b (kept (f.s b)).toNat f) b := goFull_ind (L := L) (b := b) (fun g => Fresh g b) (fun g hg _ => send_fresh hg) _ _ h
  unfold letGo
  generalize goFull L b (kept (f.s b)).toNat f = g at h1
  unfold goSmall
  split
  · rename_i q
    have h2 : Fresh (send L g b (kept (g.s b))) b := send_fresh h1
    refine ⟨amt_zero h2.2.2 ?_, h2.2.1⟩
    have := kept_sent (L := L) (now := g.now) h1.2.2 (Int.le_of_lt q.1) (Int.le_refl _)
    rw [kept_eq] at this
    rw [send_same]
    omega
  · rename_i q
    have e : lets L g b = true := by unfold lets; rw [hr b]
    refine ⟨amt_zero h1.2.2 ?_, h1.2.1⟩
    rw [e, kept_eq] at q
    have q' : ¬ 0 < amt (g.s b).stock := fun z => q ⟨z, rfl⟩
    omega
theorem letGo_p0 (hr : Plain L) (h : P0 f) : P0 (letGo L b f) := by
  intro d
  by_cases q : d = b
  · subst q
    exact letGo_plain hr ⟨fun e he => (by rw [(h d).1] at he; cases he), (h d).2, fun e he => (by rw [(h d).1] at he; cases he)⟩
  · rw [letGo_ne q]; exact h d
theorem put_p0 (hr : Plain L) (h : P0 f) (hn : 0 < n) : P0 (put L f b n) := by
  intro d
  by_cases q : d = b
  · subst q
    have e : ((addStock f d n).s d).stock = [(n, f.now)] := by rw [addStock_same, (h d).1]; rfl
    refine letGo_plain hr ⟨fun x hx => ?_, by rw [addStock_same]; exact (h d).2, fun x hx => ?_⟩
    · rw [e] at hx; rw [List.mem_singleton.mp hx]; rfl
    · rw [e] at hx; rw [List.mem_singleton.mp hx]; exact hn
  · rw [put_ne q]; exact h d
theorem doStep_p0 (hr : Plain L) (hc : CoOk c) (h : P0 f) : P0 (doStep L b f c).1 := by
  cases e : c.steps[c.place]? with
  | none => rw [doStep_none e]; exact h
  | some o =>
    cases o with
    | write n =>
      rw [doStep_write e]
      exact put_p0 hr h (hc.ops _ (List.mem_of_getElem? e))
    | read n =>
      by_cases q : (f.s b).come - (f.s b).taken < n
      · rw [doStep_read0 e q]; exact h
      · rw [doStep_read1 e q]
        intro d
        have r := read_s f b n d
        exact ⟨r.1.trans (h d).1, r.2.2.2.2.2.2.trans (h d).2⟩
    | pause n =>
      by_cases q : f.now < c.til.getD (f.now + n)
      · rw [doStep_pause0 e q]; exact h
      · rw [doStep_pause1 e q]; exact h
theorem leave1_p0 (h : P0 f) : P0 (leave1 L f b) := by
  unfold leave1
  split
  · intro d
    refine ⟨send0_s.1.trans (h d).1, ?_⟩
    by_cases q : d = b
    · subst q; rw [send_same]
      show (takeOut _ _ 0 _).2 = 0
      rw [takeOut_zero]; exact (h d).2
    · rw [send_ne q]; exact (h d).2
  · exact h
/-- plain: what was written a way ago has come; no step is later than it must be -/
structure Pl (L : Ln) (S : Sy) : Prop where
  p0 : P0 S.f
  p3 : ∀ b a, S.f.now ≤ a → a < S.f.now + L.way → ∀ j, j < (S.c b).place → (S.c b).hist j + L.way ≤ a → W (S.c b).steps (j + 1) ≤ arr S.f b a
  p5 : ∀ b k, k < (S.c b).place → (∀ n, (S.c b).steps[k]? = some (.write n) → (S.c b).hist k ≤ prevAt (S.c b) k) ∧
    (∀ n, (S.c b).steps[k]? = some (.pause n) → (S.c b).hist k ≤ prevAt (S.c b) k + n) ∧
    (∀ n, (S.c b).steps[k]? = some (.read n) → (S.c b).hist k ≤ prevAt (S.c b) k ∨
      ∃ j, j < (S.c (!b)).place ∧ W (S.c (!b)).steps j < R (S.c b).steps (k + 1) ∧ (S.c b).hist k ≤ (S.c (!b)).hist j + L.way)
  p6 : ∀ b u n, (S.c b).til = some u → (S.c b).steps[(S.c b).place]? = some (.pause n) → u ≤ (S.c b).prev + n
/-- a step that can be done in this tick is not late -/
def Rdy (L : Ln) (S : Sy) (b : Bool) : Prop := ∀ o, (S.c b).steps[(S.c b).place]? = some o →
  (∀ n, o = .write n → S.f.now ≤ (S.c b).prev) ∧
  (∀ n, o = .read n → n ≤ (S.f.s b).come - (S.f.s b).taken → S.f.now ≤ (S.c b).prev ∨
    ∃ j, j < (S.c (!b)).place ∧ W (S.c (!b)).steps j < R (S.c b).steps ((S.c b).place + 1) ∧ S.f.now ≤ (S.c (!b)).hist j + L.way) ∧
  (∀ n, o = .pause n → ((S.c b).til = none → S.f.now ≤ (S.c b).prev) ∧ (∀ u, (S.c b).til = some u → S.f.now ≤ u))
theorem Pl.frame (h : Pl L S) (x : Fr L S.f g) (h0 : P0 g) : Pl L ⟨g, S.c⟩ := by
  refine ⟨h0, fun b a q1 q2 j hj hh => ?_, h.p5, h.p6⟩
  have q1' : g.now ≤ a := q1
  have q2' : a < g.now + L.way := q2
  rw [x.now] at q1' q2'
  show _ ≤ arr g b a
  rw [x.arr q2']
  exact h.p3 b a q1' q2' j hj hh
/-- all that was written and had the time has come -/
theorem Pl.all (hT : Tv L S) (hF : Fv L S.f) (h : Pl L S) {j : Nat} (h1 : S.f.now ≤ a) (hj : j < (S.c b).place) (hh : (S.c b).hist j + L.way ≤ a) (ho : ∀ o ∈ (S.c b).steps, OpOk o) : W (S.c b).steps (j + 1) ≤ arr S.f b a := by
  by_cases q : a < S.f.now + L.way
  · exact h.p3 b a h1 q j hj hh
  · have e1 := hT.t1 b
    have e2 := hF.a.sum b
    have e3 : kept (S.f.s b) = 0 := by unfold kept; rw [(h.p0 b).1]; rfl
    have e4 : airBy S.f.air b a = airTot S.f.air b := airBy_all fun p hp => by
      have := (hF.a.air p hp).2.2.1
      omega
    have e5 := W_mono ho (show j + 1 ≤ (S.c b).place from hj)
    unfold arr
    rw [e4]
    omega
/-- a step that passes -/
theorem Pl.passed (h : Pl L S) (hT : Tv L S) (now : g.now = S.f.now) (h0 : P0 g) (hco : ∀ d, (g.s d).come = (S.f.s d).come) (hby : ∀ d a, a < S.f.now + L.way → airBy g.air d a = airBy S.f.air d a) (hw : 1 ≤ L.way)
    (hk : (∀ n, (S.c b).steps[(S.c b).place]? = some (.write n) → S.f.now ≤ (S.c b).prev) ∧ (∀ n, (S.c b).steps[(S.c b).place]? = some (.pause n) → S.f.now ≤ (S.c b).prev + n) ∧
      (∀ n, (S.c b).steps[(S.c b).place]? = some (.read n) → S.f.now ≤ (S.c b).prev ∨
        ∃ j, j < (S.c (!b)).place ∧ W (S.c (!b)).steps j < R (S.c b).steps ((S.c b).place + 1) ∧ S.f.now ≤ (S.c (!b)).hist j + L.way)) : Pl L (setC S b g ((S.c b).pass S.f.now)) := by
  have harr : ∀ d a, a < S.f.now + L.way → arr g d a = arr S.f d a := fun d a q => by unfold arr; rw [hco, hby d a q]
  refine ⟨h0, fun d a q1 q2 j hj hh => ?_, fun d k hkk => ?_, fun d u n hu hn => ?_⟩
  · have q1' : g.now ≤ a := q1
    have q2' : a < g.now + L.way := q2
    rw [now] at q1' q2'
    show _ ≤ arr g d a
    rw [harr d a q2']
    by_cases q : d = b
    · subst q; rw [setC_c] at hj hh ⊢
      by_cases z : j = (S.c d).place
      · subst z; rw [pass_last] at hh; omega
      · have hj' : j < (S.c d).place + 1 := hj
        rw [pass_hist (by omega)] at hh
        exact h.p3 d a q1' q2' j (by omega) hh
    · rw [setC_ne q] at hj hh ⊢
      exact h.p3 d a q1' q2' j hj hh
  · by_cases q : d = b
    · subst q; rw [setC_c] at hkk ⊢
      rw [setC_ne nb]
      have hk' : k < (S.c d).place + 1 := hkk
      by_cases z : k = (S.c d).place
      · subst z; rw [pass_last, pass_prevAt (Nat.le_refl _)]
        exact hk
      · rw [pass_hist (by omega), pass_prevAt (by omega)]; exact h.p5 d k (by omega)
    · rw [setC_ne q] at hkk ⊢
      obtain ⟨o1, o2, o3⟩ := h.p5 d k hkk
      refine ⟨o1, o2, fun n hn => ?_⟩
      have e : (!d) = b := by obtain rfl := bn q; exact Bool.not_not b
      rw [e, setC_c]
      have o := o3 n hn
      rw [e] at o
      rcases o with o | ⟨j, j1, j2, j3⟩
      · exact .inl o
      · exact .inr ⟨j, Nat.lt_succ_of_lt j1, j2, by rw [pass_hist j1]; exact j3⟩
  · by_cases q : d = b
    · subst q; rw [setC_c] at hu; cases hu
    · rw [setC_ne q] at hu hn ⊢; exact h.p6 d u n hu hn
theorem Rdy.other (h : Rdy L S d) (hd : d ≠ b) (now : g.now = S.f.now) (e1 : (g.s d).come = (S.f.s d).come) (e2 : (g.s d).taken = (S.f.s d).taken) (hc : c.steps = (S.c b).steps) (hp : (S.c b).place ≤ c.place) (hh : ∀ j, j < (S.c b).place → c.hist j = (S.c b).hist j) : Rdy L (setC S b g c) d := by
  intro o ho
  rw [setC_ne hd] at ho ⊢
  obtain ⟨r1, r2, r3⟩ := h o ho
  have e : (!d) = b := by obtain rfl := bn hd; exact Bool.not_not b
  rw [e] at r2 ⊢
  rw [setC_c]
  have n' : (setC S b g c).f.now = S.f.now := now
  rw [n', hc]
  refine ⟨r1, fun n z hn => ?_, r3⟩
  have hn' : n ≤ (g.s d).come - (g.s d).taken := hn
  rw [e1, e2] at hn'
  rcases r2 n z hn' with r | ⟨j, j1, j2, j3⟩
  · exact .inl r
  · exact .inr ⟨j, by omega, j2, by rw [hh j j1]; exact j3⟩
theorem rdy_passed (now : g.now = S.f.now) : Rdy L (setC S b g ((S.c b).pass S.f.now)) b := by
  intro o _
  rw [setC_c, pass_prev]
  have n' : (setC S b g ((S.c b).pass S.f.now)).f.now = S.f.now := now
  rw [n']
  exact ⟨fun _ _ => Int.le_refl _, fun _ _ _ => .inl (Int.le_refl _), fun _ _ => ⟨fun _ => Int.le_refl _, fun u hu => by cases hu⟩⟩
structure PM (L : Ln) (S : Sy) : Prop where
  mid : Mid L S
  pl : Pl L S
  rdy : ∀ b, Rdy L S b
theorem doStep_pm (hL : LnOk L) (hr : Plain L) (h : PM L S) : PM L (setC S b (doStep L b S.f (S.c b)).1 (doStep L b S.f (S.c b)).2.1) := by
  have hw := hL.way1
  refine ⟨doStep_mid hL h.mid, ?_, fun d => ?_⟩
  · cases e : (S.c b).steps[(S.c b).place]? with
    | none => rw [doStep_none e, setC_self]; exact h.pl
    | some o =>
      obtain ⟨r1, r2, r3⟩ := h.rdy b o e
      cases o with
      | write n =>
        rw [doStep_write e]
        have hn : 0 < n := (h.mid.co b).ops _ (List.mem_of_getElem? e)
        have x := put_fr (b := b) hL h.mid.fv.pos hn
        exact h.pl.passed h.mid.tv put_now (put_p0 hr h.pl.p0 hn) (fun d => (x.come d).trans add_s.1) (fun d a q => x.by_ d a q) hw ⟨fun m _ => r1 n rfl, fun m z => (by rw [e] at z; cases z), fun m z => (by rw [e] at z; cases z)⟩
      | read n =>
        by_cases q : (S.f.s b).come - (S.f.s b).taken < n
        · rw [doStep_read0 e q, setC_self]; exact h.pl
        · rw [doStep_read1 e q]
          refine h.pl.passed (g := { S.f with s := upS S.f.s b { S.f.s b with taken := (S.f.s b).taken + n } }) h.mid.tv rfl (fun d => ?_) (fun d => (read_s S.f b n d).2.2.2.2.1) (fun d a q => rfl) hw ⟨fun m z => (by rw [e] at z; cases z), fun m z => (by rw [e] at z; cases z), fun m z => r2 n rfl (by omega)⟩
          have r := read_s S.f b n d
          exact ⟨r.1.trans (h.pl.p0 d).1, r.2.2.2.2.2.2.trans (h.pl.p0 d).2⟩
      | pause n =>
        by_cases q : S.f.now < (S.c b).til.getD (S.f.now + n)
        · rw [doStep_pause0 e q]
          refine ⟨h.pl.p0, fun d a => ?_, fun d => ?_, fun d u m hu hm => ?_⟩
          · by_cases z : d = b
            · subst z; rw [setC_c]; exact h.pl.p3 d a
            · rw [setC_ne z]; exact h.pl.p3 d a
          · by_cases z : d = b
            · subst z; rw [setC_c, setC_ne nb]; exact h.pl.p5 d
            · rw [setC_ne z]
              have e2 : (!d) = b := by obtain rfl := bn z; exact Bool.not_not b
              rw [e2, setC_c]
              have o := h.pl.p5 d
              rw [e2] at o
              exact o
          · by_cases z : d = b
            · subst z; rw [setC_c] at hu hm ⊢
              have hm' : (S.c d).steps[(S.c d).place]? = some (.pause m) := hm
              rw [e] at hm'; cases hm'
              have hu' : (S.c d).til.getD (S.f.now + n) = u := Option.some.inj hu
              show u ≤ (S.c d).prev + n
              cases r : (S.c d).til with
              | none =>
                rw [r] at hu'; simp at hu'
                have := (r3 n rfl).1 r
                omega
              | some v =>
                rw [r] at hu'
                have := h.pl.p6 d v n r e
                simp at hu'; omega
            · rw [setC_ne z] at hu hm ⊢; exact h.pl.p6 d u m hu hm
        · rw [doStep_pause1 e q]
          refine h.pl.passed h.mid.tv rfl h.pl.p0 (fun d => rfl) (fun d a q => rfl) hw ⟨fun m z => (by rw [e] at z; cases z), fun m z => ?_, fun m z => (by rw [e] at z; cases z)⟩
          rw [e] at z; cases z
          cases r : (S.c b).til with
          | none =>
            have := (r3 n rfl).1 r
            have : OpOk (.pause n) := (h.mid.co b).ops _ (List.mem_of_getElem? e)
            have : 0 ≤ n := this
            omega
          | some v =>
            have := (r3 n rfl).2 v r
            have := h.pl.p6 b v n r e
            omega
  · cases e : (S.c b).steps[(S.c b).place]? with
    | none => rw [doStep_none e, setC_self]; exact h.rdy d
    | some o =>
      cases o with
      | write n =>
        rw [doStep_write e]
        by_cases z : d = b
        · subst z; exact rdy_passed put_now
        · have e3 : (put L S.f b n).s d = S.f.s d := put_ne z
          exact (h.rdy d).other z put_now (by rw [e3]) (by rw [e3]) rfl (Nat.le_succ _) (fun j hj => pass_hist hj)
      | read n =>
        by_cases q : (S.f.s b).come - (S.f.s b).taken < n
        · rw [doStep_read0 e q, setC_self]; exact h.rdy d
        · rw [doStep_read1 e q]
          by_cases z : d = b
          · subst z; exact rdy_passed rfl
          · have e3 : (upS S.f.s b { S.f.s b with taken := (S.f.s b).taken + n }) d = S.f.s d := upS_ne z
            exact (h.rdy d).other (g := { S.f with s := upS S.f.s b { S.f.s b with taken := (S.f.s b).taken + n } }) z rfl (by show (upS S.f.s b _ d).come = _; rw [e3]) (by show (upS S.f.s b _ d).taken = _; rw [e3]) rfl (Nat.le_succ _) (fun j hj => pass_hist hj)
      | pause n =>
        by_cases q : S.f.now < (S.c b).til.getD (S.f.now + n)
        · rw [doStep_pause0 e q]
          by_cases z : d = b
          · subst z
            intro o ho
            rw [setC_c] at ho ⊢
            have ho' : (S.c d).steps[(S.c d).place]? = some o := ho
            rw [e] at ho'; cases ho'
            refine ⟨fun m y => (nomatch y), fun m y => (nomatch y), fun m _ => ⟨fun y => (by cases y), fun u hu => ?_⟩⟩
            have : (S.c d).til.getD (S.f.now + n) = u := Option.some.inj hu
            show S.f.now ≤ u
            omega
          · exact (h.rdy d).other z rfl rfl rfl rfl (Nat.le_refl _) (fun j _ => rfl)
        · rw [doStep_pause1 e q]
          by_cases z : d = b
          · subst z; exact rdy_passed rfl
          · exact (h.rdy d).other z rfl rfl rfl rfl (Nat.le_succ _) (fun j hj => pass_hist hj)
theorem go1_pm (hL : LnOk L) (hr : Plain L) (h : PM L S) : PM L (go1 L b S) := go1_ind (L := L) (b := b) (PM L) (fun S hS => doStep_pm hL hr hS) h
theorem begin_p0 (hr : Plain L) (h : P0 f) : P0 (begin_ L f t) := letGo_p0 hr (letGo_p0 hr fun d => ⟨arrive_keep.1.trans (h d).1, arrive_keep.2.2.1.trans (h d).2⟩)
theorem begin_pl (hL : LnOk L) (hr : Plain L) (hx : Nxt L S t) (h : Pl L S) : Pl L (tickIn L S t) := by
  have h0 : ∀ p ∈ S.f.air, 0 ≤ p.n := fun p hp => (hx.fv0.a.air p hp).1
  have hle := hx.le
  have ha : Pl L ⟨arrive L S.f t, S.c⟩ := by
    refine ⟨fun d => ⟨arrive_keep.1.trans (h.p0 d).1, arrive_keep.2.2.1.trans (h.p0 d).2⟩, fun b a q1 q2 j hj hh => ?_, h.p5, h.p6⟩
    have q1' : (arrive L S.f t).now ≤ a := q1
    rw [arrive_now] at q1'
    show _ ≤ arr (arrive L S.f t) b a
    rw [arrive_frame h0 q1']
    exact Pl.all hx.tv hx.fv0 h (by omega) hj hh (hx.co b).ops
  exact ha.frame (begin_fr hL hx.fv0.pos) (begin_p0 hr h.p0)
theorem begin_come (hL : LnOk L) (hp : ∀ d, PosL (f.s d).stock) : ((begin_ L f t).s d).come = ((arrive L f t).s d).come ∧ ((begin_ L f t).s d).taken = (f.s d).taken := by
  have x := begin_fr (t := t) hL hp
  exact ⟨x.come d, (x.taken d).trans arrive_keep.2.2.2.1⟩
/-- a side that waits goes on as soon as it can -/
theorem begin_rdy (hL : LnOk L) (he : End L S) (ht : IsMin t (evs L S)) (h : Pl L S) (b : Bool) : Rdy L (tickIn L S t) b := by
  have hx := end_nxt hL he ht
  have h0 : ∀ p ∈ S.f.air, 0 ≤ p.n := fun p hp => (hx.fv0.a.air p hp).1
  have lt := he.gt t ht.1
  intro o ho
  have ho' : (S.c b).steps[(S.c b).place]? = some o := ho
  obtain ⟨s1, s2, s3⟩ := he.stp b o ho'
  have hn : (tickIn L S t).f.now = t := tickIn_now
  rw [hn]
  show (∀ n, o = .write n → t ≤ (S.c b).prev) ∧ (∀ n, o = .read n → n ≤ ((begin_ L S.f t).s b).come - ((begin_ L S.f t).s b).taken → t ≤ (S.c b).prev ∨
    ∃ j, j < (S.c (!b)).place ∧ W (S.c (!b)).steps j < R (S.c b).steps ((S.c b).place + 1) ∧ t ≤ (S.c (!b)).hist j + L.way) ∧
    (∀ n, o = .pause n → ((S.c b).til = none → t ≤ (S.c b).prev) ∧ (∀ u, (S.c b).til = some u → t ≤ u))
  refine ⟨fun n z => absurd z (s1 n), fun n z hle => .inr ?_, fun n z => ⟨fun y => absurd y (s3 n z), fun u hu => ht.2 u ?_⟩⟩
  · subst z
    have s2' := s2 n rfl
    have bc := begin_come (L := L) (f := S.f) (t := t) (d := b) hL hx.fv0.pos
    rw [bc.1, bc.2] at hle
    have tk := (he.mid.tv.t2 b).1
    have eR : R (S.c b).steps ((S.c b).place + 1) = R (S.c b).steps (S.c b).place + n := R_succ ho'
    have hn : 0 < n := (he.mid.co b).ops _ (List.mem_of_getElem? ho')
    have r0 := R_nonneg (he.mid.co b).ops (S.c b).place
    -- what has come was written
    have hT := arrive_tv hx
    have e1 := hx.fv0.a.sum (!b)
    rw [Bool.not_not] at e1
    have e2 := he.mid.tv.t1 (!b)
    have e3 : 0 ≤ kept (S.f.s (!b)) := amt_nonneg (hx.fv0.pos _)
    have e4 : ((arrive L S.f t).s b).come ≤ arr (arrive L S.f t) (!b) t := by
      unfold arr
      rw [Bool.not_not]
      have := airBy_nonneg (b := !b) (a := t) (l := (arrive L S.f t).air) fun p hp => h0 p (arrive_air.mp hp).1
      omega
    rw [arrive_frame h0 (Int.le_refl t)] at e4
    have e5 : arr S.f (!b) t ≤ W (S.c (!b)).steps (S.c (!b)).place := by
      unfold arr
      rw [Bool.not_not]
      have := airBy_le (b := !b) (a := t) h0
      omega
    obtain ⟨j, j1, j2, j3⟩ := W_cross (l := (S.c (!b)).steps) (x := R (S.c b).steps ((S.c b).place + 1)) (by omega) (k := (S.c (!b)).place) (by omega)
    refine ⟨j, j1, j2, Int.le_of_not_gt fun z => ?_⟩
    have e6 : W (S.c (!b)).steps (j + 1) ≤ arr S.f (!b) (t - 1) := Pl.all he.mid.tv he.mid.fv h (by omega) j1 (by omega) (he.mid.co (!b)).ops
    have e7 : airBy S.f.air (!b) (t - 1) = 0 := airBy_none fun p hp => by
      have := ht.2 p.at_ (List.mem_append_right _ (List.mem_append_left _ (List.mem_append_left _ (List.mem_map_of_mem hp))))
      omega
    unfold arr at e6
    rw [e7, Bool.not_not] at e6
    omega
  · cases b with
    | false => exact List.mem_append_left _ (List.mem_append_left _ (by rw [hu]; simp))
    | true => exact List.mem_append_left _ (List.mem_append_right _ (by rw [hu]; simp))
theorem start_rdy (b : Bool) : Rdy L (tickIn L (sy0 P) 0) b := by
  intro o ho
  have hn : (tickIn L (sy0 P) 0).f.now = 0 := tickIn_now
  have hv : ((tickIn L (sy0 P) 0).c b).prev = 0 := rfl
  rw [hn, hv]
  exact ⟨fun _ _ => Int.le_refl _, fun _ _ _ => .inl (Int.le_refl _), fun _ _ => ⟨fun _ => Int.le_refl _, fun u hu => (by cases hu)⟩⟩
theorem start_pl : Pl L (sy0 P) := ⟨fun b => ⟨rfl, rfl⟩, fun b a _ _ j hj => absurd hj (Nat.not_lt_zero _), fun b k hk => absurd hk (Nat.not_lt_zero _), fun b u n hu => (by cases hu)⟩
theorem doTick_pl (hL : LnOk L) (hr : Plain L) (hx : Nxt L S t) (h : Pl L S) (hy : ∀ b, Rdy L (tickIn L S t) b) : Pl L (doTick L S t) := by
  have m1 : PM L (tickIn L S t) := ⟨tickIn_mid hL hx, begin_pl hL hr hx h, hy⟩
  have m3 : PM L (tickMid L S t) := go1_pm hL hr (go1_pm hL hr m1)
  exact m3.pl.frame (leave_fr m3.mid.fv.pos) (leave1_p0 (leave1_p0 m3.pl.p0))
theorem reach_pl (hL : LnOk L) (hr : Plain L) (hP : ∀ b, ∀ o ∈ P b, OpOk o) (h : Reach L P S) : Pl L S := by
  induction h with
  | start => exact doTick_pl hL hr (start_nxt hL hP) start_pl (fun b => start_rdy b)
  | step h1 ht ih => exact doTick_pl hL hr (end_nxt hL (reach_end hL hP h1) ht) ih (fun b => begin_rdy hL (reach_end hL hP h1) ht ih b)
theorem plain_held (hL : LnOk L) (hr : Plain L) (hP : ∀ b, ∀ o ∈ P b, OpOk o) (h : Done L P S) (b : Bool) : (S.f.s b).long = 0 := ((reach_pl hL hr hP h.reach).p0 b).2

/-- no step of the plain line is later -/
theorem hist_step (hL : LnOk L) (hL' : LnOk L') (hr : Plain L) (hw : L.way ≤ L'.way) (hP : ∀ b, ∀ o ∈ P b, OpOk o) (h : Done L P S) (h' : Done L' P S') {k : Nat} (hk : k < (S.c b).place)
    (hp : prevAt (S.c b) k ≤ prevAt (S'.c b) k) (hj : ∀ j, j < (S.c (!b)).place → (S'.c (!b)).hist j + L'.way ≤ (S'.c b).hist k → (S.c (!b)).hist j ≤ (S'.c (!b)).hist j) : (S.c b).hist k ≤ (S'.c b).hist k := by
  have pe := place_eq hL hL' hP h h' b
  have st := reach_steps h.reach
  have st' := reach_steps h'.reach
  have fin := done_fin hL hP h
  obtain ⟨p1, p2, p3⟩ := (reach_pl hL hr hP h.reach).p5 b k hk
  obtain ⟨t1, t2, t3⟩ := (reach_end hL' hP h'.reach).mid.tv.t5 b k (by rw [← pe]; exact hk)
  rw [st b] at p1 p2 p3
  rw [st' b] at t2 t3
  rw [st (!b)] at p3
  have hlen : k < (P b).length := Nat.lt_of_lt_of_le hk (fin.le b)
  have q : (P b)[k]? = some ((P b)[k]'hlen) := List.getElem?_eq_getElem hlen
  cases z : (P b)[k]'hlen with
  | write n =>
    rw [z] at q
    have := p1 n q
    omega
  | pause n =>
    rw [z] at q
    have := p2 n q
    have := t2 n q
    omega
  | read n =>
    rw [z] at q
    rcases p3 n q with r | ⟨j, j1, j2, j3⟩
    · omega
    · obtain ⟨i, i1, i2, i3⟩ := t3 n q
      rw [st' (!b)] at i3
      have lt : j < i := Nat.lt_of_not_le fun y => by
        have := W_mono (hP (!b)) y
        omega
      have a1 := i2 j lt
      have a2 := hj j j1 (by omega)
      omega
theorem hist_le (hL : LnOk L) (hL' : LnOk L') (hr : Plain L) (hw : L.way ≤ L'.way) (hP : ∀ b, ∀ o ∈ P b, OpOk o) (h : Done L P S) (h' : Done L' P S') :
    ∀ (m : Nat) (k : Nat) (b : Bool), ((S'.c b).hist k).toNat ≤ m → k < (S.c b).place → (S.c b).hist k ≤ (S'.c b).hist k := by
  have pe := place_eq hL hL' hP h h'
  have tv' := (reach_end hL' hP h'.reach).mid.tv
  have hw1 := hL'.way1
  have prev : ∀ (m k : Nat) (b : Bool), (∀ b, ((S'.c b).hist k).toNat ≤ m → k < (S.c b).place → (S.c b).hist k ≤ (S'.c b).hist k) → ((S'.c b).hist (k + 1)).toNat ≤ m → k + 1 < (S.c b).place → prevAt (S.c b) (k + 1) ≤ prevAt (S'.c b) (k + 1) := by
    intro m k b ih hm hk
    have t5 := (tv'.t5 b (k + 1) (by rw [← pe]; exact hk)).1
    unfold prevAt at t5 ⊢
    rw [if_neg (by omega), Nat.add_sub_cancel] at t5
    rw [if_neg (by omega), if_neg (by omega), Nat.add_sub_cancel]
    exact ih b (by omega) (by omega)
  have nn : ∀ (b : Bool) (j : Nat), j < (S.c b).place → 0 ≤ (S'.c b).hist j := fun b j hj => (tv'.t4 b j (by rw [← pe]; exact hj)).1
  intro m
  induction m with
  | zero =>
    intro k
    induction k with
    | zero =>
      intro b hm hk
      exact hist_step hL hL' hr hw hP h h' hk (Int.le_refl _) fun j j1 j2 => by
        have := nn (!b) j j1
        omega
    | succ k ih =>
      intro b hm hk
      exact hist_step hL hL' hr hw hP h h' hk (prev 0 k b ih hm hk) fun j j1 j2 => by
        have := nn (!b) j j1
        omega
  | succ m ihm =>
    intro k
    induction k with
    | zero =>
      intro b hm hk
      exact hist_step hL hL' hr hw hP h h' hk (Int.le_refl _) fun j j1 j2 => by
        have := nn (!b) j j1
        exact ihm j (!b) (by omega) j1
    | succ k ih =>
      intro b hm hk
      exact hist_step hL hL' hr hw hP h h' hk (prev (m + 1) k b ih hm hk) fun j j1 j2 => by
        have := nn (!b) j j1
        exact ihm j (!b) (by omega) j1
theorem ended_le (hL : LnOk L) (hL' : LnOk L') (hr : Plain L) (hw : L.way ≤ L'.way) (hP : ∀ b, ∀ o ∈ P b, OpOk o) (h : Done L P S) (h' : Done L' P S') {x y : Int} (hx : (S.c b).ended = some x) (hy : (S'.c b).ended = some y) : x ≤ y := by
  have pe := place_eq hL hL' hP h h' b
  unfold Co.ended at hx hy
  split at hx
  · split at hy
    · cases hx
      cases hy
      unfold Co.prev
      rw [← pe]
      by_cases z : (S.c b).place = 0
      · rw [if_pos z, if_pos z]; exact Int.le_refl _
      · rw [if_neg z, if_neg z]
        exact hist_le hL hL' hr hw hP h h' _ _ b (Nat.le_refl _) (by omega)
    · cases hy
  · cases hx
end
end Sh

namespace Sh
open PySem L2 PySem.Spec PyProof.Rows
/-! ### the text by places -/
def topS (i : Nat) : Stmt := PySem.Challenge.pw_smallheld_k12_whole_plain_and_bounds_of.main.body.getD i (.Pass ⟨0, 0, 0, 0⟩)

/-! ### rules that the layer lacks -/
section
variable {X : Cx}
theorem pe_gl {x : Str} {v : V} {pos : Pos} (hg : Gl X x) (hm : ∃ u, X.mg x = some u ∧ RelV v u) (hd : (x == ("__debug__" : Str)) = false := by decide) : PE X (.Name x pos) (tC v) := by
  obtain ⟨u, e, r⟩ := hm
  exact pe_glob hg e r hd
/-- the same rules with the written part named (within a comprehension's block) -/
theorem ix_listK {K : PySem.W.Frag} (hK : X.K = K) : IxR X (rIxL K) := hK ▸ ix_list
theorem ix_tupK {K : PySem.W.Frag} (hK : X.K = K) : IxR X (rIxT K) := hK ▸ ix_tup
theorem pe_fldK {K : PySem.W.Frag} {e : Expr} {f : Str} {pos : Pos} {ta : TE} (hK : X.K = K) (he : PE X e ta) (hb : attributeBase e f X.env (eval e X.env) = eval e X.env) : PE X (.Attribute e f pos) (tFld K ta f) := hK ▸ pe_fld he hb
theorem pg_tupK {K : PySem.W.Frag} {es : List Expr} {k : Nat} {t : TGs} {n : Nat} {pos : Pos} (hK : X.K = K) (hc : X.calm = true) (h : PGs X es t)
    (hn : (assignEach es X.env).length = n := by rfl) (hst : (assignEach es X.env).findIdx? (·.1) = none := by rfl) : PG X (.Tuple es k pos) (gTup K n t) := hK ▸ pg_tup hc h hn hst
theorem pi_listK {K : PySem.W.Frag} {tg l : Expr} {tl : TE} (hK : X.K = K) (hl : PE X l tl) : PI X tg l (iList K tl) := hK ▸ pi_list hl
/-- xs[i], by values, 0 ≤ i -/
def gList (K : PySem.W.Frag) : V → V → Hp → VK → Prop := fun x y H Q => ∃ p xs j v, x = .ref p ∧ y = .int ((j : Nat) : Int) ∧ SqL K H p xs ∧ xs[j]? = some v ∧ Q v H
theorem get_list : PGet X (gList X.K) := by
  intro pins s σ H o i ov iv Q I ro ri h
  obtain ⟨p, xs, j, z, rfl, rfl, hq, he, q⟩ := h
  cases ro
  obtain ⟨t, rfl⟩ := ri
  obtain ⟨its, r, pl, hz⟩ := I.list hq
  obtain ⟨w, ew, rw'⟩ := r.get he
  have hl := r.length
  have hj : j < xs.length := (List.getElem?_eq_some_iff.mp he).1
  have hn := line63
  exact wpAny_getItem_list (k := (j : Int)) (x := w) pl.isList (by omega) (by omega) (by simpa using ew) ⟨z, H, I, rw', q⟩
end

/-! ### lists of tuples -/
/-- the references vs stand for tuples of the rows -/
inductive Tups (H : Hp) : List V → List (List V) → Prop where
  | nil : Tups H [] []
  | cons {t : Addr} {row : List V} {vs : List V} {rows : List (List V)} : H t = some (.tup row) → Tups H vs rows → Tups H (.ref t :: vs) (row :: rows)
/-- tuples stay -/
def KT (H H' : Hp) : Prop := ∀ a xs, H a = some (.tup xs) → H' a = some (.tup xs)
theorem KT.refl (H : Hp) : KT H H := fun _ _ h => h
theorem KT.trans {H H1 H2 : Hp} (a : KT H H1) (b : KT H1 H2) : KT H H2 := fun c xs h => b c xs (a c xs h)
theorem KT.upd {H : Hp} {a : Addr} {o : HO} (h : ∀ xs, H a ≠ some (.tup xs)) : KT H (upd H a o) := fun b xs e => by
  rw [upd_ne]
  · exact e
  · intro z; subst z; exact h xs e
theorem KT.lst {H : Hp} {a : Addr} {o : HO} {l : List V} (h : H a = some (.lst l)) : KT H (L2.upd H a o) := KT.upd fun xs e => by rw [h] at e; cases e
theorem KT.ins {H : Hp} {a C dx : Addr} {o : HO} {fs : List (Str × V)} (h : H a = some (.ins C dx fs)) : KT H (L2.upd H a o) := KT.upd fun xs e => by rw [h] at e; cases e
theorem KT.new {H : Hp} {a : Addr} {o : HO} (h : H a = none) : KT H (L2.upd H a o) := KT.upd fun xs e => by rw [h] at e; cases e
theorem Tups.keep {H H' : Hp} (k : KT H H') : ∀ {vs : List V} {rows : List (List V)}, Tups H vs rows → Tups H' vs rows
  | _, _, .nil => .nil
  | _, _, .cons h t => .cons (k _ _ h) (Tups.keep k t)
theorem Tups.keep' {H H' : Hp} {vs : List V} {rows : List (List V)} (h : Tups H vs rows) (k : ∀ a xs, H a = some (.tup xs) → H' a = some (.tup xs)) : Tups H' vs rows := h.keep k
theorem Tups.length {H : Hp} : ∀ {vs : List V} {rows : List (List V)}, Tups H vs rows → vs.length = rows.length
  | _, _, .nil => rfl
  | _, _, .cons _ t => congrArg Nat.succ (Tups.length t)
theorem Tups.snoc {H : Hp} {a : Addr} {row : List V} (h : H a = some (.tup row)) : ∀ {vs : List V} {rows : List (List V)}, Tups H vs rows → Tups H (vs ++ [.ref a]) (rows ++ [row])
  | _, _, .nil => .cons h .nil
  | _, _, .cons h' t => .cons h' (Tups.snoc h t)
theorem Tups.get {H : Hp} {v : V} : ∀ {vs : List V} {rows : List (List V)} {i : Nat}, Tups H vs rows → vs[i]? = some v → ∃ t row, rows[i]? = some row ∧ v = .ref t ∧ H t = some (.tup row)
  | _, _, _, .nil, h => by simp at h
  | _, _, 0, .cons h _, e => by
    simp at e; subst e
    exact ⟨_, _, rfl, rfl, h⟩
  | _, _, i + 1, .cons _ t, e => by
    obtain ⟨a, row, h1, h2⟩ := Tups.get (i := i) (v := v) t (by simpa using e)
    exact ⟨a, row, by simpa using h1, h2⟩
theorem Same.upd0 {H0 H : Hp} {a : Addr} {o : HO} (s : Same H0 H) (h : H0 a = none) : Same H0 (L2.upd H a o) := fun b u e => by
  rw [upd_ne (ne_of_none e h)]
  exact s b u e

/-! ### a comprehension over a list of tuples -/
theorem yes_ite {σ : L2.St} {H : Hp} {A B : Hp → Prop} (h : A H) : tYes σ H (fun b H3 => if b = true then A H3 else B H3) := iteT (A := A H) (B := B H) h
def pick (gg : V → List V → Option V) (vs : List V) (rows : List (List V)) : List V := (vs.zip rows).filterMap fun q => gg q.1 q.2
theorem pick_cons (gg : V → List V → Option V) (v : V) (row : List V) (vs : List V) (rows : List (List V)) : pick gg (v :: vs) (row :: rows) = (gg v row).toList ++ pick gg vs rows := by
  unfold pick
  rw [List.zip_cons_cons, List.filterMap_cons]
  cases gg v row <;> rfl
theorem lc_rows {K : PySem.W.Frag} {a D : Addr} {vs : List V} {rows : List (List V)} {g : TG} {tt : TT} {te : TE} {ws : List Nat} {σ : L2.St} {H1 : Hp} {Qd : Hp → Prop} (gg : V → List V → Option V)
    (hD : H1 D = none) (ha : SqL K H1 a vs) (ht : Tups H1 vs rows) (hz : vs.length ≤ 1000000)
    (turn : ∀ (t : Addr) (row : List V) (H' : Hp) (Yes : V → Hp → Prop) (No : Hp → Prop), V.ref t ∈ vs → row ∈ rows → Same H1 H' → H' t = some (.tup row) → (∀ y H4, Same H' H4 → gg (.ref t) row = some y → Yes y H4) → (∀ H3, Same H' H3 → gg (.ref t) row = none → No H3) →
      g (.ref t) (wipe σ ws) H' fun σ2 H2 => wipe σ2 ws = wipe σ ws ∧ tt σ2 H2 fun b H3 => if b = true then te σ2 H3 Yes else No H3)
    (hd : ∀ H', Same H1 H' → H' D = some (.lst (pick gg vs rows)) → Qd H') :
    ∃ W : Nat → Nat → Hp → Prop, (∃ m, W 0 m (upd H1 D (.lst []))) ∧ ∀ i m H, W i m H →
      ((Itl K a).stop i H ∧ Qd H) ∨ ((Itl K a).go i H ∧ ∃ Nx : Hp → Prop, (∀ H', Nx H' → ∃ m', m' < m ∧ W (i + 1) m' H') ∧ ∀ x H', (Itl K a).yld i H x H' → g x (wipe σ ws) H' fun σ2 H2 => wipe σ2 ws = wipe σ ws ∧ tt σ2 H2 fun b H3 =>
        if b = true then te σ2 H3 fun y H4 => ∃ acc, H4 D = some (.lst acc) ∧ acc.length < sizeLine ∧ Nx (upd H4 D (.lst (acc ++ [y]))) else Nx H3) := by
  have e0 : Same H1 (L2.upd H1 D (.lst [])) := fun b u hb => by rw [upd_ne (ne_of_none hb hD)]; exact hb
  have up : ∀ {H4 : Hp} {l : List V}, Same H1 H4 → Same H1 (L2.upd H4 D (.lst l)) := fun {H4 l} e b u hb => by rw [upd_ne (ne_of_none hb hD)]; exact e b u hb
  refine lc_list (xs := vs) (fun i H' => Same H1 H' ∧ H' D = some (.lst (pick gg (vs.take i) (rows.take i)))) ⟨e0, by rw [upd_same]; rfl⟩ (fun i H' _ p => p.1.seq ha) (fun i x H' hi p => ?_) (fun H' p => ?_)
  · obtain ⟨t, row, hr, rfl, hrow⟩ := ht.get hi
    have e1 : vs.take (i + 1) = vs.take i ++ [.ref t] := by rw [List.take_add_one, hi]; rfl
    have e2 : rows.take (i + 1) = rows.take i ++ [row] := by rw [List.take_add_one, hr]; rfl
    have hl : (vs.take i).length = (rows.take i).length := by rw [List.length_take, List.length_take, ht.length]
    have e3 : pick gg (vs.take (i + 1)) (rows.take (i + 1)) = pick gg (vs.take i) (rows.take i) ++ (gg (.ref t) row).toList := by
      unfold pick
      rw [e1, e2, List.zip_append hl, List.filterMap_append]
      congr 1
    have hlen : (pick gg (vs.take i) (rows.take i)).length < sizeLine := by
      have h1 := List.length_filterMap_le (fun q : V × List V => gg q.1 q.2) ((vs.take i).zip (rows.take i))
      have h2 : ((vs.take i).zip (rows.take i)).length ≤ 1000000 := by
        rw [List.length_zip, List.length_take]
        omega
      have h3 : (pick gg (vs.take i) (rows.take i)).length ≤ 1000000 := Nat.le_trans h1 h2
      exact Nat.lt_of_le_of_lt h3 (by decide)
    refine turn t row H' _ _ (List.mem_of_getElem? hi) (List.mem_of_getElem? hr) p.1 (p.1 _ _ hrow) (fun y H4 e4 hy => ?_) (fun H3 e4 hn => ?_)
    · refine ⟨_, e4 _ _ p.2, hlen, up (p.1.trans e4), ?_⟩
      rw [upd_same, e3, hy]
      rfl
    · refine ⟨p.1.trans e4, ?_⟩
      rw [e3, hn]
      show _ = some (HO.lst (_ ++ []))
      rw [List.append_nil]
      exact e4 _ _ p.2
  · refine hd H' p.1 ?_
    have := p.2
    rw [List.take_of_length_le (Nat.le_refl _), List.take_of_length_le (Nat.le_of_eq ht.length.symm)] at this
    exact this
theorem pick_map {α : Type} {gg : V → List V → Option V} {row : α → List V} {k : α → V} (hk : ∀ v x, gg v (row x) = some (k x)) : ∀ {vs : List V} {l : List α}, vs.length = l.length → pick gg vs (l.map row) = l.map k
  | [], [], _ => rfl
  | v :: vs, x :: l, h => by
    rw [List.map_cons, pick_cons, hk, pick_map hk (by simpa using h)]
    rfl
theorem pick_filter {α : Type} {H : Hp} {gg : V → List V → Option V} {row : α → List V} {k : α → Bool} (hk : ∀ v x, gg v (row x) = if k x = true then some v else none) : ∀ {vs : List V} {l : List α}, Tups H vs (l.map row) → Tups H (pick gg vs (l.map row)) ((l.filter k).map row)
  | _, [], h => by cases h; exact .nil
  | _, x :: l, h => by
    cases h with
    | cons h1 h2 =>
      rw [List.map_cons, pick_cons, hk]
      by_cases q : k x = true
      · rw [if_pos q, List.filter_cons_of_pos q]
        exact .cons h1 (pick_filter hk h2)
      · rw [if_neg q, List.filter_cons_of_neg q]
        exact pick_filter hk h2

/-! ### sides, pieces -/
def sI (b : Bool) : Int := if b then 1 else 0
def sN (b : Bool) : Nat := if b then 1 else 0
theorem sI_nat (b : Bool) : sI b = ((sN b : Nat) : Int) := by cases b <;> rfl
theorem sI_not (b : Bool) : 1 - sI b = sI (!b) := by cases b <;> rfl
def optV : Option Int → V
  | none => .non
  | some i => .int i
def rowS (e : Int × Int) : List V := [.int e.1, .int e.2]
def rowP (p : Pc) : List V := [.int p.at_, .int (sI p.sd), .int p.n, .int p.ans]
def rowL (p : Pc) : List V := [.int p.at_, .int (sI p.sd), .int p.n, .int p.ans]

/-! ### lines and settings -/
def ruleS : Rule → Str
  | .plain => "plain"
  | .hold => "hold"
  | .few => "few"
def fSetg (s : Setg) (t : Addr) : List (Str × V) := [("rule", .str (ruleS s.rule)), ("every", .int s.every), ("delay", .int s.delay), ("told", .ref t)]
def fLine (L : Ln) (a b t : Addr) : List (Str × V) := [("size", .int L.size), ("way", .int L.way), ("near", .ref a), ("far", .ref b), ("told", .ref t)]
/-- where the text's classes stand, and the tuple RULES -/
structure AD where
  Flow : Addr
  Course : Addr
  Setting : Addr
  Line : Addr
  Run : Addr
  rules : Addr
  tab : Addr
/-- a flow's things that never change: its own dict, its line, the two settings, the tuple of them -/
structure FZ where
  dx : Addr
  ln : Addr
  near : Addr
  far : Addr
  stg : Addr
/-- a setting at a, which stands still -/
def SetAt (C : AD) (H : Hp) (a : Addr) (s : Setg) : Prop := ∃ dx t xs, H a = some (.ins C.Setting dx (fSetg s t)) ∧ H t = some (.tup xs)
/-- a line at ln with its two settings at near and far -/
structure LineAt (C : AD) (H : Hp) (ln near far : Addr) (L : Ln) : Prop where
  ln : ∃ dx t, H ln = some (.ins C.Line dx (fLine L near far t))
  near : SetAt C H near (L.st false)
  far : SetAt C H far (L.st true)
theorem SetAt.same {C : AD} {H H' : Hp} {a : Addr} {s : Setg} (h : SetAt C H a s) (e : Same H H') : SetAt C H' a s := by
  obtain ⟨dx, t, xs, h, h'⟩ := h
  exact ⟨dx, t, xs, e _ _ h, e _ _ h'⟩
theorem LineAt.same {C : AD} {H H' : Hp} {ln near far : Addr} {L : Ln} (h : LineAt C H ln near far L) (e : Same H H') : LineAt C H' ln near far L := by
  obtain ⟨⟨dx, t, h1⟩, h2, h3⟩ := h
  exact ⟨⟨dx, t, e _ _ h1⟩, h2.same e, h3.same e⟩
/-- the line and the tuple of its settings -/
def LnZ (C : AD) (H : Hp) (z : FZ) (L : Ln) : Prop := LineAt C H z.ln z.near z.far L ∧ H z.stg = some (.tup [.ref z.near, .ref z.far])
theorem LnZ.same {C : AD} {H H' : Hp} {z : FZ} {L : Ln} (h : LnZ C H z L) (e : Same H H') : LnZ C H' z L := ⟨h.1.same e, e _ _ h.2⟩

/-! ### the flow -/
inductive Tg where
  | stock | s0 | s1 | out | known | small | come | taken | full | first | long | flight | log
  deriving DecidableEq
def fFlow (ln stg : Addr) (now : Int) (ad : Tg → Addr) : List (Str × V) :=
  [("line", .ref ln), ("settings", .ref stg), ("tick", .int now), ("stock", .ref (ad .stock)), ("out", .ref (ad .out)), ("known", .ref (ad .known)), ("small", .ref (ad .small)), ("come", .ref (ad .come)),
   ("taken", .ref (ad .taken)), ("full", .ref (ad .full)), ("first", .ref (ad .first)), ("long", .ref (ad .long)), ("flight", .ref (ad .flight)), ("log", .ref (ad .log))]
/-- what a side holds of a pair -/
def fv (x : Sd) : Tg → V
  | .out => .int x.out
  | .known => .int x.known
  | .small => .int x.small
  | .come => .int x.come
  | .taken => .int x.taken
  | .full => .int x.full
  | .first => optV x.first
  | .long => .int x.long
  | _ => .non
def skT (b : Bool) : Tg := if b then .s1 else .s0
def cont (ad : Tg → Addr) (r : Bool → List V) (fl lg : List V) (s : Bool → Sd) : Tg → List V
  | .stock => [.ref (ad .s0), .ref (ad .s1)]
  | .s0 => r false
  | .s1 => r true
  | .flight => fl
  | .log => lg
  | t => [fv (s false) t, fv (s true) t]
def isP : Tg → Bool
  | .stock | .s0 | .s1 | .flight | .log => false
  | _ => true
structure FlowR (C : AD) (H0 H : Hp) (p : Addr) (z : FZ) (L : Ln) (ad : Tg → Addr) (r : Bool → List V) (fl lg : List V) (f : Fl) : Prop where
  same : Same H0 H
  p0 : H0 p = none
  a0 : ∀ t, H0 (ad t) = none
  inj : ∀ t u, ad t = ad u → t = u
  ins : H p = some (.ins C.Flow z.dx (fFlow z.ln z.stg f.now ad))
  at_ : ∀ t, H (ad t) = some (.lst (cont ad r fl lg f.s t))
  rs : ∀ b, Tups H (r b) ((f.s b).stock.map rowS)
  fls : Tups H fl (f.air.map rowP)
  lgs : Tups H lg (f.log.map rowP)
  line : LnZ C H0 z L
/-- the flow f stands at p, over what stood in H0 -/
def FlowAt (C : AD) (H0 H : Hp) (p : Addr) (z : FZ) (L : Ln) (f : Fl) : Prop := ∃ ad r fl lg, FlowR C H0 H p z L ad r fl lg f

section
variable {C : AD} {p q : Addr} {z : FZ} {H0 H H' : Hp} {L : Ln} {ad : Tg → Addr} {r : Bool → List V} {fl lg : List V} {f : Fl} {o o' : HO}
theorem FlowR.mk' (h : FlowR C H0 H p z L ad r fl lg f) : FlowAt C H0 H p z L f := ⟨_, _, _, _, h⟩
theorem FlowR.pne (h : FlowR C H0 H p z L ad r fl lg f) (t : Tg) : p ≠ ad t := ne_of h.ins (h.at_ t) (by intro z; cases z)
theorem FlowR.lineH (h : FlowR C H0 H p z L ad r fl lg f) : LineAt C H z.ln z.near z.far L := h.line.1.same h.same
theorem FlowR.stgH (h : FlowR C H0 H p z L ad r fl lg f) : H z.stg = some (.tup [.ref z.near, .ref z.far]) := h.same _ _ h.line.2
/-- more is tracked, over the same base -/
theorem FlowR.ext (h : FlowR C H0 H p z L ad r fl lg f) (e : Same H H') : FlowR C H0 H' p z L ad r fl lg f :=
  ⟨h.same.trans e, h.p0, h.a0, h.inj, e _ _ h.ins, fun t => e _ _ (h.at_ t), fun b => (h.rs b).keep fun _ _ => e _ _, h.fls.keep fun _ _ => e _ _, h.lgs.keep fun _ _ => e _ _, h.line⟩
theorem FlowAt.ext (h : FlowAt C H0 H p z L f) (e : Same H H') : FlowAt C H0 H' p z L f := by
  obtain ⟨ad, r, fl, lg, h⟩ := h
  exact ⟨ad, r, fl, lg, h.ext e⟩
/-- a new thing, put into the base -/
theorem FlowAt.new (h : FlowAt C H0 H p z L f) (hq : H q = none) : FlowAt C (L2.upd H0 q o) (L2.upd H q o) p z L f := by
  obtain ⟨ad, r, fl, lg, h⟩ := h
  have hq0 : H0 q = none := h.same.free hq
  have e : Same H (L2.upd H q o) := fun b u hb => by rw [upd_ne (ne_of_none hb hq)]; exact hb
  have h' := h.ext e
  refine ⟨ad, r, fl, lg, ⟨fun b u hb => ?_, ?_, fun t => ?_, h.inj, h'.ins, h'.at_, h'.rs, h'.fls, h'.lgs, ?_⟩⟩
  · by_cases y : b = q
    · subst y; rw [upd_same] at hb ⊢; exact hb
    · rw [upd_ne y] at hb ⊢; exact h.same _ _ hb
  · rw [upd_ne (ne_of_none h.ins hq)]; exact h.p0
  · rw [upd_ne (ne_of_none (h.at_ t) hq)]; exact h.a0 t
  · exact h.line.same fun b u hb => by rw [upd_ne (ne_of_none hb hq0)]; exact hb
/-- a thing that stands, put into the base -/
theorem FlowAt.up (h : FlowAt C H0 H p z L f) (hq : H q = some o) (hp : q ≠ p) (hk : ∀ l, o ≠ .lst l) (hq0 : H0 q = none) : FlowAt C (L2.upd H0 q o) H p z L f := by
  obtain ⟨ad, r, fl, lg, h⟩ := h
  have hne : ∀ t, ad t ≠ q := fun t => ne_of (h.at_ t) hq fun y => hk _ y.symm
  refine ⟨ad, r, fl, lg, ⟨fun b u hb => ?_, ?_, fun t => ?_, h.inj, h.ins, h.at_, h.rs, h.fls, h.lgs, ?_⟩⟩
  · by_cases y : b = q
    · subst y; rw [upd_same] at hb; rw [hq]; exact hb
    · rw [upd_ne y] at hb; exact h.same _ _ hb
  · rw [upd_ne hp.symm]; exact h.p0
  · rw [upd_ne (hne t)]; exact h.a0 t
  · exact h.line.same fun b u hb => by rw [upd_ne (ne_of_none hb hq0)]; exact hb
/-- a smaller base -/
theorem FlowAt.down {H1 : Hp} (h : FlowAt C H1 H p z L f) (s : Same H0 H1) (l : LnZ C H0 z L) : FlowAt C H0 H p z L f := by
  obtain ⟨ad, r, fl, lg, h⟩ := h
  exact ⟨ad, r, fl, lg, ⟨s.trans h.same, s.free h.p0, fun t => s.free (h.a0 t), h.inj, h.ins, h.at_, h.rs, h.fls, h.lgs, l⟩⟩
theorem same_upd (h : H0 q = none) : Same H0 (L2.upd H0 q o) := fun b u hb => by rw [upd_ne (ne_of_none hb h)]; exact hb
/-- an instance of the base changes -/
theorem FlowAt.chg {c dx : Addr} {fs fs' : List (Str × V)} (h : FlowAt C (L2.upd H0 q (.ins c dx fs)) H p z L f) (hq0 : H0 q = none) (l : LnZ C H0 z L) : FlowAt C (L2.upd H0 q (.ins c dx fs')) (L2.upd H q (.ins c dx fs')) p z L f := by
  obtain ⟨ad, r, fl, lg, h⟩ := h
  have hq : H q = some (.ins c dx fs) := h.same _ _ upd_same
  have hp : p ≠ q := fun e => by have := h.p0; rw [e, upd_same] at this; cases this
  have ha : ∀ t, ad t ≠ q := fun t e => by have := h.a0 t; rw [e, upd_same] at this; cases this
  have k : KT H (L2.upd H q (.ins c dx fs')) := KT.ins hq
  refine ⟨ad, r, fl, lg, ⟨fun b u hb => ?_, ?_, fun t => ?_, h.inj, ?_, fun t => ?_, fun b => (h.rs b).keep k, h.fls.keep k, h.lgs.keep k, l.same (same_upd hq0)⟩⟩
  · by_cases y : b = q
    · subst y; rw [upd_same] at hb ⊢; exact hb
    · rw [upd_ne y] at hb ⊢
      refine h.same _ _ ?_
      rw [upd_ne y]; exact hb
  · rw [upd_ne hp]; have := h.p0; rw [upd_ne hp] at this; exact this
  · rw [upd_ne (ha t)]; have := h.a0 t; rw [upd_ne (ha t)] at this; exact this
  · rw [upd_ne hp]; exact h.ins
  · rw [upd_ne (ha t)]; exact h.at_ t
theorem upd_comm {q q' : Addr} (h : q ≠ q') : L2.upd (L2.upd H q o) q' o' = L2.upd (L2.upd H q' o') q o := by
  funext b
  unfold L2.upd
  by_cases e : b = q'
  · subst e; rw [if_pos rfl, if_neg h.symm, if_pos rfl]
  · rw [if_neg e]
    by_cases e' : b = q
    · subst e'; rw [if_pos rfl, if_pos rfl]
    · rw [if_neg e', if_neg e', if_neg e]
/-- a store into the list at ad t -/
theorem FlowR.put {l : List V} {t : Tg} {r' : Bool → List V} {fl' lg' : List V} {s' : Bool → Sd} {air' lo' : List Pc} (h : FlowR C H0 H p z L ad r fl lg f)
    (e : cont ad r' fl' lg' s' t = l) (o : ∀ u, u ≠ t → cont ad r' fl' lg' s' u = cont ad r fl lg f.s u)
    (h1 : ∀ b, Tups H (r' b) ((s' b).stock.map rowS)) (h2 : Tups H fl' (air'.map rowP)) (h3 : Tups H lg' (lo'.map rowP)) : FlowR C H0 (upd H (ad t) (.lst l)) p z L ad r' fl' lg' ⟨f.now, s', air', lo'⟩ := by
  have k : KT H (L2.upd H (ad t) (.lst l)) := KT.lst (h.at_ t)
  refine ⟨Same.upd0 h.same (h.a0 t), h.p0, h.a0, h.inj, ?_, fun u => ?_, fun b => (h1 b).keep k, h2.keep k, h3.keep k, h.line⟩
  · rw [upd_ne (h.pne t)]; exact h.ins
  · by_cases q : u = t
    · subst q; rw [upd_same, e]
    · rw [upd_ne (fun z => q (h.inj _ _ z)), o u q]; exact h.at_ u
/-- a store into a pair -/
theorem FlowR.pair {t : Tg} {b : Bool} {x' : Sd} {v : V} (h : FlowR C H0 H p z L ad r fl lg f) (hp : isP t = true)
    (e : fv x' t = v) (o : ∀ u, u ≠ t → fv x' u = fv (f.s b) u) (hs : x'.stock = (f.s b).stock) :
    FlowR C H0 (upd H (ad t) (.lst ((cont ad r fl lg f.s t).set (sN b) v))) p z L ad r fl lg ⟨f.now, upS f.s b x', f.air, f.log⟩ := by
  refine h.put ?_ (fun u hu => ?_) (fun d => ?_) h.fls h.lgs
  · cases t <;> first | (cases hp; done) | (cases b <;> simp [cont, sN, upS, e])
  · have o' := o u hu
    cases u <;> first | rfl | (cases b <;> simp [cont, upS, o'])
  · have : (upS f.s b x' d).stock = (f.s d).stock := by
      by_cases q : d = b
      · subst q; rw [upS_same, hs]
      · rw [upS_ne q]
    rw [this]; exact h.rs d
/-- the clock is set -/
theorem FlowR.clock {t : Int} (h : FlowR C H0 H p z L ad r fl lg f) : FlowR C H0 (upd H p (.ins C.Flow z.dx (fFlow z.ln z.stg t ad))) p z L ad r fl lg { f with now := t } := by
  have k : KT H (L2.upd H p (.ins C.Flow z.dx (fFlow z.ln z.stg t ad))) := KT.ins h.ins
  exact ⟨Same.upd0 h.same h.p0, h.p0, h.a0, h.inj, upd_same, fun u => by rw [upd_ne (h.pne u).symm]; exact h.at_ u, fun b => (h.rs b).keep k, h.fls.keep k, h.lgs.keep k, h.line⟩
end

/-! ### callees -/
structure MOk (P : Program) (w : World) (K : PySem.W.Frag) (mg : Str → Option Value) (base : Heap) (c : Addr) (nm : Str) (k : Nat) (ps : List Str) (sp : Sp) : Prop where
  ex : ∃ f fd, FnOk P w K mg base CX0 k f fd ps sp ∧ Binds K fd ps [] ∧ Meth K c nm f
structure GOk (P : Program) (w : World) (K : PySem.W.Frag) (mg : Str → Option Value) (base : Heap) (nm : Str) (k : Nat) (ps : List Str) (sp : Sp) : Prop where
  ex : ∃ f fd, FnOk P w K mg base CX0 k f fd ps sp ∧ Binds K fd ps [] ∧ mg nm = some (.ref f) ∧ PySem.W.keepIn K (.ref f) = true
structure IOk (P : Program) (w : World) (K : PySem.W.Frag) (mg : Str → Option Value) (base : Heap) (c : Addr) (k : Nat) (ps : List Str) (sp : Sp) : Prop where
  ex : ∃ f fd, FnOk P w K mg base CX0 k f fd ps sp ∧ Binds K fd ps [] ∧ Mk K c f

/-- what the text's top has left: classes, constants, built-in names -/
structure Txt (K : PySem.W.Frag) (mg : Str → Option Value) (C : AD) : Prop where
  cl_Flow : Cls K C.Flow
  m_Flow : mg "Flow" = some (.ref C.Flow)
  n_Flow_line : NoAttr K C.Flow "line"
  n_Flow_settings : NoAttr K C.Flow "settings"
  n_Flow_tick : NoAttr K C.Flow "tick"
  n_Flow_stock : NoAttr K C.Flow "stock"
  n_Flow_out : NoAttr K C.Flow "out"
  n_Flow_known : NoAttr K C.Flow "known"
  n_Flow_small : NoAttr K C.Flow "small"
  n_Flow_come : NoAttr K C.Flow "come"
  n_Flow_taken : NoAttr K C.Flow "taken"
  n_Flow_full : NoAttr K C.Flow "full"
  n_Flow_first : NoAttr K C.Flow "first"
  n_Flow_long : NoAttr K C.Flow "long"
  n_Flow_flight : NoAttr K C.Flow "flight"
  n_Flow_log : NoAttr K C.Flow "log"
  cl_Course : Cls K C.Course
  m_Course : mg "Course" = some (.ref C.Course)
  n_Course_steps : NoAttr K C.Course "steps"
  n_Course_again : NoAttr K C.Course "again"
  n_Course_place : NoAttr K C.Course "place"
  n_Course_until : NoAttr K C.Course "until"
  n_Course_ended : NoAttr K C.Course "ended"
  n_Course_begun : NoAttr K C.Course "begun"
  cl_Setting : Cls K C.Setting
  m_Setting : mg "Setting" = some (.ref C.Setting)
  n_Setting_rule : NoAttr K C.Setting "rule"
  n_Setting_every : NoAttr K C.Setting "every"
  n_Setting_delay : NoAttr K C.Setting "delay"
  n_Setting_told : NoAttr K C.Setting "told"
  cl_Line : Cls K C.Line
  m_Line : mg "Line" = some (.ref C.Line)
  n_Line_size : NoAttr K C.Line "size"
  n_Line_way : NoAttr K C.Line "way"
  n_Line_near : NoAttr K C.Line "near"
  n_Line_far : NoAttr K C.Line "far"
  n_Line_told : NoAttr K C.Line "told"
  cl_Run : Cls K C.Run
  m_Run : mg "Run" = some (.ref C.Run)
  n_Run_ends : NoAttr K C.Run "ends"
  n_Run_stuck : NoAttr K C.Run "stuck"
  n_Run_pieces : NoAttr K C.Run "pieces"
  n_Run_answers : NoAttr K C.Run "answers"
  n_Run_held : NoAttr K C.Run "held"
  n_Run_unread : NoAttr K C.Run "unread"
  n_Run_quiet : NoAttr K C.Run "quiet"
  n_Run_all : NoAttr K C.Run "all"
  g_MOST_SIZE : ∃ u, mg "MOST_SIZE" = some u ∧ RelV (.int 40) u
  g_MOST_WAY : ∃ u, mg "MOST_WAY" = some u ∧ RelV (.int 200) u
  g_MOST_EVERY : ∃ u, mg "MOST_EVERY" = some u ∧ RelV (.int 4) u
  g_MOST_DELAY : ∃ u, mg "MOST_DELAY" = some u ∧ RelV (.int 200) u
  g_MOST_STEPS : ∃ u, mg "MOST_STEPS" = some u ∧ RelV (.int 6) u
  g_MOST_BYTES : ∃ u, mg "MOST_BYTES" = some u ∧ RelV (.int 60) u
  g_MOST_X : ∃ u, mg "MOST_X" = some u ∧ RelV (.int 2000) u
  g_LETTER : ∃ u, mg "LETTER" = some u ∧ RelV (.str "x") u
  g_RULES : ∃ u, mg "RULES" = some u ∧ RelV (.ref C.rules) u
  g_Setting : ∃ u, mg "Setting" = some u ∧ RelV (.ref C.Setting) u
  g_Line : ∃ u, mg "Line" = some u ∧ RelV (.ref C.Line) u
  i_Setting : C8.InsC K C.Setting
  i_Line : C8.InsC K C.Line
  rules : ∀ H : Hp, SqT K H C.rules [.str "plain", .str "hold", .str "few"]
  z_len : mg "len" = none
  z_sum : mg "sum" = none
  z_max : mg "max" = none
  z_min : mg "min" = none
  z_abs : mg "abs" = none
  z_divmod : mg "divmod" = none
  z_all : mg "all" = none
  z_isinstance : mg "isinstance" = none
  z_int : mg "int" = none
  z_bool : mg "bool" = none
  z_str : mg "str" = none
  z_tuple : mg "tuple" = none
  z_list : mg "list" = none
  z_range : mg "range" = none
  z_zip : mg "zip" = none
  z_enumerate : mg "enumerate" = none
  z_sorted : mg "sorted" = none
end Sh

namespace Sh
open PySem L2 PySem.Spec PyProof.Rows
/-! ### the flow's methods -/
theorem at0 {α : Type} (v : α) (vs : List α) : atI (v :: vs) 0 = some v := atI_nat (xs := v :: vs) (j := 0) rfl
theorem ix0 {α : Type} (v : α) (vs : List α) : ixN (v :: vs).length 0 = some 0 := by simp [ixN]
theorem sideAt {α : Type} (x y : α) (b : Bool) : atI [x, y] (sI b) = some (if b then y else x) := by cases b <;> rfl
theorem sideGet {α : Type} (x y : α) (b : Bool) : [x, y][sN b]? = some (if b then y else x) := by cases b <;> rfl
theorem upS_upS {s : Bool → Sd} {b : Bool} {x y : Sd} : upS (upS s b x) b y = upS s b y := by
  funext d
  unfold upS
  split <;> rfl
def setSt (f : Fl) (b : Bool) (st : List (Int × Int)) (lg : Int) : Fl := { f with s := upS f.s b { f.s b with stock := st, long := lg } }
def spFlow_kept (_ : PySem.W.Frag) (C : AD) : Sp := fun vs H Q _ => ∃ (H0 : Hp) (p : Addr) (z : FZ) (L : Ln) (f : Fl) (b : Bool), vs = [.ref p, .int (sI b)] ∧ FlowAt C H0 H p z L f ∧ (f.s b).stock.length ≤ 1000000 ∧
  ∀ H', Same H H' → Q (.int (kept (f.s b))) H'
def spFlow_fresh (_ : PySem.W.Frag) (C : AD) : Sp := fun vs H Q _ => ∃ (H0 : Hp) (p : Addr) (z : FZ) (L : Ln) (f : Fl) (b : Bool), vs = [.ref p, .int (sI b)] ∧ FlowAt C H0 H p z L f ∧
  Q (.int ((f.s b).come - (f.s b).taken)) H
def spFlow_take_out (_ : PySem.W.Frag) (C : AD) : Sp := fun vs H Q _ => ∃ (H0 : Hp) (p : Addr) (z : FZ) (L : Ln) (f : Fl) (b : Bool) (n : Int), vs = [.ref p, .int (sI b), .int n] ∧ FlowAt C H0 H p z L f ∧ PosL (f.s b).stock ∧ n ≤ amt (f.s b).stock ∧
  ∀ H', FlowAt C H0 H' p z L (setSt f b (takeOut f.now (f.s b).stock n (f.s b).long).1 (takeOut f.now (f.s b).stock n (f.s b).long).2) → Q .non H'
section
variable {P : Program} {w : World} {K : PySem.W.Frag} {mg : Str → Option Value} {base : Heap} {C : AD}
section
variable {p q : Addr} {z : FZ} {H0 H H' : Hp} {L : Ln} {ad : Tg → Addr} {r : Bool → List V} {fl lg : List V} {f : Fl} {σ : L2.St} {i j : Nat} {Q : VK} {b : Bool}
theorem cat2 {t : Tg} {s : Bool → Sd} (hp : isP t = true) : atI (cont ad r fl lg s t) (sI b) = some (fv (s b) t) := by
  cases t <;> first | (cases hp; done) | (cases b <;> rfl)
theorem catS {s : Bool → Sd} : atI (cont ad r fl lg s .stock) (sI b) = some (.ref (ad (skT b))) := by cases b <;> rfl
theorem ix2 (b : Bool) : ixN 2 (sI b) = some (sN b) := by cases b <;> rfl
theorem ixc {t : Tg} {s : Bool → Sd} (hp : isP t = true) : ixN (cont ad r fl lg s t).length (sI b) = some (sN b) := by
  have e : (cont ad r fl lg s t).length = 2 := by cases t <;> first | (cases hp; done) | rfl
  rw [e]; exact ix2 b
/-- a new list of a side's stock -/
theorem FlowR.stkSet (h : FlowR C H0 H p z L ad r fl lg f) {vs : List V} {st : List (Int × Int)} (ht : Tups H vs (st.map rowS)) :
    FlowR C H0 (L2.upd H (ad (skT b)) (.lst vs)) p z L ad (fun d => if d = b then vs else r d) fl lg { f with s := upS f.s b { f.s b with stock := st } } := by
  refine h.put (t := skT b) (s' := upS f.s b { f.s b with stock := st }) ?_ (fun u hu => ?_) (fun d => ?_) h.fls h.lgs
  · cases b <;> rfl
  · cases b <;> cases u <;> first | rfl | exact absurd rfl hu
  · by_cases q : d = b
    · subst q; simp only [if_true]; rw [upS_same]; exact ht
    · simp only [if_neg q]; rw [upS_ne q]; exact h.rs d
theorem FlowR.stk (h : FlowR C H0 H p z L ad r fl lg f) (b : Bool) : H (ad (skT b)) = some (.lst (r b)) := by
  have := h.at_ (skT b)
  cases b <;> exact this
end
abbrev sFlow_kept : Stmt := inClass (topS 2) 1
theorem scFlow_kept : FnScope ["self", "side", "amount", "tick"] ["self", "side"] (defScope sFlow_kept) := ⟨rfl, rfl, rfl, by decide +kernel, rfl, by decide +kernel, by decide +kernel⟩
theorem okFlow_kept {f : Addr} {fd : FuncData} (F : Fun K "kept" "Flow.kept" sFlow_kept f fd) (T : Txt K mg C) :
    FnOk P w K mg base CX0 1 f fd ["self", "side"] (spFlow_kept K C) := by
  refine F.ok scFlow_kept (fun vs H Q E h => ?_) (fun cdv A outer s H vs Q E hr h => ?_)
  · obtain ⟨H0, p, z, L, f, b, rfl, _⟩ := h
    rfl
  · obtain ⟨H0, p, z, L, f, b, rfl, ⟨ad, r, fl, lg, h1⟩, hz, k⟩ := h
    refine ⟨_, (pss_one (ps_ret (pe_callB (cr_sum rfl) (by rfl) T.z_sum (by decide +kernel) (pa_cons (pe_lc (own := [("amount", 2), ("tick", 3)]) rfl scFlow_kept.nd (pi_list (pe_ix ix_list (pe_fld (pv 0) rfl) (pv 1) (fun _ _ => rfl))) (blkOk_by (N := ["self", "side", "amount", "tick"]) (sc := defScope sFlow_kept) (by decide +kernel)) (fun _ _ _ _ _ => by exact (pg_tupK (K := K) (n := 2) rfl rfl (pgs_cons (pg_name (i := 2) scFlow_kept.nd rfl (Or.inl rfl)) (pgs_cons (pg_name (i := 3) scFlow_kept.nd rfl (Or.inl rfl)) pgs_nil)))) (fun _ _ _ _ _ => by exact pts_nil) (fun _ _ _ _ _ => by exact (pv 2))) pa_nil)))), ?_⟩
    refine ⟨_, rfl, _, _, _, _, _, rfl, h1.ins, T.cl_Flow, T.n_Flow_stock, rfl, _, rfl, _, _, _, _, rfl, rfl, SqL.of (h1.at_ .stock), catS, ?_⟩
    refine ⟨_, rfl, ⟨_, SqL.of (h1.stk b)⟩, fun D hD => ?_⟩
    have hlen : (r b).length = (f.s b).stock.length := by rw [(h1.rs b).length, List.length_map]
    refine lc_rows (K := K) (fun _ row => row[0]?) hD (SqL.of (h1.stk b)) (h1.rs b) (by omega) (fun t row H' Yes No hv hr e ht hy hn => ?_) (fun H' e hD' => ?_)
    · obtain ⟨x, hx, rfl⟩ := List.mem_map.mp hr
      refine ⟨t, _, rfl, SqT.of ht, rfl, ?_⟩
      refine ⟨_, _, rfl, ?_⟩
      refine ⟨_, _, rfl, ?_⟩
      refine ⟨rfl, rfl, ?_⟩
      refine yes_ite ?_
      exact ⟨_, rfl, hy _ _ (Same.refl _) rfl⟩
    · rw [pick_map (k := fun e : Int × Int => V.int e.1) (fun _ _ => rfl) hlen] at hD'
      refine ⟨D, (f.s b).stock.map Prod.fst, rfl, SqL.of ?_, k _ e⟩
      rw [hD', List.map_map]
      rfl
abbrev sFlow_fresh : Stmt := inClass (topS 2) 2
theorem scFlow_fresh : FnScope ["self", "side"] ["self", "side"] (defScope sFlow_fresh) := ⟨rfl, rfl, rfl, by decide +kernel, rfl, by decide +kernel, by decide +kernel⟩
theorem okFlow_fresh {f : Addr} {fd : FuncData} (F : Fun K "fresh" "Flow.fresh" sFlow_fresh f fd) (T : Txt K mg C) :
    FnOk P w K mg base CX0 1 f fd ["self", "side"] (spFlow_fresh K C) := by
  refine F.ok scFlow_fresh (fun vs H Q E h => ?_) (fun cdv A outer s H vs Q E hr h => ?_)
  · obtain ⟨H0, p, z, L, f, b, rfl, _⟩ := h
    rfl
  · obtain ⟨H0, p, z, L, f, b, rfl, ⟨ad, r, fl, lg, h1⟩, k⟩ := h
    refine ⟨_, (pss_one (ps_ret (pe_op op_sub (pe_ix ix_list (pe_fld (pv 0) rfl) (pv 1) (fun _ _ => rfl)) (pe_ix ix_list (pe_fld (pv 0) rfl) (pv 1) (fun _ _ => rfl))))), ?_⟩
    refine ⟨_, rfl, _, _, _, _, _, rfl, h1.ins, T.cl_Flow, T.n_Flow_come, rfl, _, rfl, _, _, _, _, rfl, rfl, SqL.of (h1.at_ .come), cat2 rfl, ?_⟩
    refine ⟨_, rfl, _, _, _, _, _, rfl, h1.ins, T.cl_Flow, T.n_Flow_taken, rfl, _, rfl, _, _, _, _, rfl, rfl, SqL.of (h1.at_ .taken), cat2 rfl, ?_⟩
    exact ⟨_, _, rfl, rfl, k⟩
abbrev sFlow_take_out : Stmt := inClass (topS 2) 3
theorem scFlow_take_out : FnScope ["self", "side", "amount", "left", "first", "tick"] ["self", "side", "amount"] (defScope sFlow_take_out) := ⟨rfl, rfl, rfl, by decide +kernel, rfl, by decide +kernel, by decide +kernel⟩
theorem okFlow_take_out {f : Addr} {fd : FuncData} (F : Fun K "take_out" "Flow.take_out" sFlow_take_out f fd) (T : Txt K mg C) :
    FnOk P w K mg base CX0 1 f fd ["self", "side", "amount"] (spFlow_take_out K C) := by
  refine F.ok scFlow_take_out (fun vs H Q E h => ?_) (fun cdv A outer s H vs Q E hr h => ?_)
  · obtain ⟨H0, p, z, L, f, b, n, rfl, _⟩ := h
    rfl
  · obtain ⟨H0, p, z, L, f, b, n, rfl, h0, hp, hn, k⟩ := h
    refine ⟨_, (pss_cons (ps_set (i := 3) scFlow_take_out.nd rfl (Or.inl rfl) (pv 2))
      (pss_one (ps_while PassesOwn.never (pt_cmpR op_gt (pv 3) pe_int (nomark _)) (pss_cons (ps_asg (pe_ix ix_list (pe_ix ix_list (pe_fld (pv 0) rfl) (pv 1) (fun _ _ => rfl)) pe_int (fun _ _ => rfl)) (pg_tup rfl (pgs_cons (pg_name (i := 4) scFlow_take_out.nd rfl (Or.inl rfl)) (pgs_cons (pg_name (i := 5) scFlow_take_out.nd rfl (Or.inl rfl)) pgs_nil))))
      (pss_cons (ps_asg (pe_callB (call_max2 rfl) (by rfl) T.z_max (by decide +kernel) (pa_cons (pe_ix ix_list (pe_fld (pv 0) rfl) (pv 1) (fun _ _ => rfl)) (pa_cons (pe_op op_sub (pe_fld (pv 0) rfl) (pv 5)) pa_nil))) (pg_sub (pe_fld (pv 0) rfl) (pv 1) set_list))
      (pss_cons (ps_if (pt_cmpR op_gt (pv 4) (pv 3) (nomark _)) (pss_one (ps_asg (pe_tup (pa_cons (pe_op op_sub (pv 4) (pv 3)) (pa_cons (pv 5) pa_nil))) (pg_sub (pe_ix ix_list (pe_fld (pv 0) rfl) (pv 1) (fun _ _ => rfl)) pe_int set_list))) (pss_one (ps_delL (pe_ix ix_list (pe_fld (pv 0) rfl) (pv 1) (fun _ _ => rfl)) pe_int)))
      (pss_one (ps_aug (i := 3) scFlow_take_out.nd rfl (.inl rfl) (pe_callB (call_min2 rfl) (by rfl) T.z_min (by decide +kernel) (pa_cons (pv 4) (pa_cons (pv 3) pa_nil))) ip_sub)))))))), ?_⟩
    refine ⟨_, rfl, ?_⟩
    refine ⟨fun m σ H => ∃ (left : Int) (st : List (Int × Int)) (lg : Int) (v4 v5 : Option V), σ = [some (.ref p), some (.int (sI b)), some (.int n), some (.int left), v4, v5] ∧ FlowAt C H0 H p z L (setSt f b st lg) ∧
      takeOut f.now st left lg = takeOut f.now (f.s b).stock n (f.s b).long ∧ PosL st ∧ left ≤ amt st ∧ m = (if 0 < left then st.length + 1 else 0), ⟨_, n, (f.s b).stock, (f.s b).long, _, _, rfl, ?_, rfl, hp, hn, rfl⟩, ?_⟩
    · have e : setSt f b (f.s b).stock (f.s b).long = f := by
        unfold setSt
        have : upS f.s b { f.s b with stock := (f.s b).stock, long := (f.s b).long } = f.s := by
          funext d; by_cases q : d = b
          · subst q; rw [upS_same]
          · rw [upS_ne q]
        rw [this]
      rw [e]; exact h0
    · rintro m σ H ⟨left, st, lg, v4, v5, rfl, ⟨ad, r, fl, lgs, h1⟩, he, hp, hl, rfl⟩
      refine ⟨_, rfl, _, _, rfl, rfl, _, rfl, ?_⟩
      refine ite2 (fun q => ?_) (fun q => ?_)
      · have q' : 0 < left := of_decide_eq_true q
        cases st with
        | nil => simp [amt] at hl; omega
        | cons e st =>
          obtain ⟨a, tk⟩ := e
          have hrb : Tups H (r b) (((a, tk) :: st).map rowS) := by
            have := h1.rs b
            unfold setSt at this
            simp only [upS_same] at this
            exact this
          have hsb := h1.stk b
          generalize hvs : r b = vs at hrb hsb
          cases hrb with
          | @cons t row vs rows ht hts =>
            refine ⟨_, fun _ _ n => n, ?_⟩
            -- first, tick = self.stock[side][0]
            refine ⟨_, rfl, _, _, _, _, _, rfl, h1.ins, T.cl_Flow, T.n_Flow_stock, rfl, _, rfl, _, _, _, _, rfl, rfl, SqL.of (h1.at_ .stock), catS, ?_⟩
            refine ⟨_, _, _, _, rfl, rfl, SqL.of hsb, at0 _ _, ?_⟩
            refine ⟨t, _, rfl, SqT.of ht, rfl, ?_⟩
            refine ⟨_, _, rfl, ?_⟩
            refine ⟨_, _, rfl, ?_⟩
            refine ⟨rfl, ?_⟩
            -- self.long[side] = max(..)
            refine ⟨_, rfl, _, _, _, _, _, rfl, h1.ins, T.cl_Flow, T.n_Flow_long, rfl, _, rfl, _, _, _, _, rfl, rfl, SqL.of (h1.at_ .long), cat2 rfl, ?_⟩
            refine ⟨_, rfl, _, _, _, _, _, rfl, h1.ins, T.cl_Flow, T.n_Flow_tick, rfl, ?_⟩
            refine ⟨_, rfl, _, _, rfl, rfl, ?_⟩
            refine ⟨_, _, rfl, ?_⟩
            refine ⟨_, rfl, _, _, _, _, _, rfl, h1.ins, T.cl_Flow, T.n_Flow_long, rfl, _, rfl, _, _, _, _, rfl, rfl, h1.at_ .long, ixc rfl, ?_⟩
            have h2 := h1.pair (t := .long) (b := b) (x' := { (setSt f b ((a, tk) :: st) lg).s b with long := if f.now - tk > lg then f.now - tk else lg }) (v := .int (if f.now - tk > lg then f.now - tk else lg)) rfl rfl
              (fun u hu => by cases u <;> first | rfl | exact absurd rfl hu) rfl
            have elg : ((setSt f b ((a, tk) :: st) lg).s b).long = lg := by unfold setSt; simp only [upS_same]
            have h2' := h2
            have es : (⟨(setSt f b ((a, tk) :: st) lg).now, upS (setSt f b ((a, tk) :: st) lg).s b { (setSt f b ((a, tk) :: st) lg).s b with long := if f.now - tk > lg then f.now - tk else lg }, (setSt f b ((a, tk) :: st) lg).air, (setSt f b ((a, tk) :: st) lg).log⟩ : Fl) = setSt f b ((a, tk) :: st) (if f.now - tk > lg then f.now - tk else lg) := by
              unfold setSt
              simp only [upS_same, upS_upS]
            rw [es] at h2
            rw [elg]
            have hsb2 : L2.upd H (ad .long) (.lst ((cont ad r fl lgs (setSt f b ((a, tk) :: st) lg).s .long).set (sN b) (.int (if f.now - tk > lg then f.now - tk else lg)))) (ad (skT b)) = some (.lst (.ref t :: vs)) := by
              rw [h2.stk b, hvs]
            generalize hH2 : L2.upd H (ad .long) (.lst ((cont ad r fl lgs (setSt f b ((a, tk) :: st) lg).s .long).set (sN b) (.int (if f.now - tk > lg then f.now - tk else lg)))) = H2 at h2 hsb2
            have hH2' : L2.upd H (ad .long) (.lst ((cont ad r fl lgs (setSt f b ((a, tk) :: st) lg).s .long).set (sN b) (.int (if (setSt f b ((a, tk) :: st) lg).now - (a, tk).2 > lg then (setSt f b ((a, tk) :: st) lg).now - (a, tk).2 else lg)))) = H2 := hH2
            rw [hH2']
            have ha : 0 < a := hp (a, tk) (by simp)
            have hpr : PosL st := fun x hx => hp x (by simp [hx])
            rw [amt_cons] at hl
            have hk : KT H H2 := by rw [← hH2]; exact KT.lst (h1.at_ .long)
            -- if first > left
            refine ⟨_, rfl, _, rfl, _, _, rfl, rfl, _, rfl, ?_⟩
            refine ite2 (fun c => ?_) (fun c => ?_)
            · have c' : left < a := of_decide_eq_true c
              refine ⟨_, rfl, _, rfl, _, _, rfl, rfl, ?_⟩
              refine ⟨_, rfl, ?_⟩
              refine ⟨by show 2 ≤ sizeLine; decide, fun y hy => ?_⟩
              have h3 := h2.ext (same_upd (o := .tup [.int (a - left), .int tk]) hy)
              refine ⟨_, rfl, _, _, _, _, _, rfl, h3.ins, T.cl_Flow, T.n_Flow_stock, rfl, _, rfl, _, _, _, _, rfl, rfl, SqL.of (h3.at_ .stock), catS, ?_⟩
              refine ⟨_, .ref t :: vs, _, 0, rfl, rfl, ?_, ix0 _ _, ?_⟩
              · rw [upd_ne (ne_of_none hsb2 hy)]; exact hsb2
              have h4 := h3.stkSet (b := b) (vs := .ref y :: vs) (st := (a - left, tk) :: st) (.cons upd_same (hts.keep (hk.trans (KT.new hy))))
              refine ⟨_, rfl, _, rfl, _, rfl, _, _, rfl, ?_⟩
              refine ⟨_, _, rfl, rfl, ?_⟩
              have e0 : left - (if left < a then left else a) = 0 := by rw [if_pos c']; omega
              have e1 : takeOut f.now ((a, tk) :: st) left lg = ((a - left, tk) :: st, if f.now - tk > lg then f.now - tk else lg) := by
                simp only [takeOut]
                rw [if_neg (by omega), if_pos c']
              have e2 : takeOut f.now ((a - left, tk) :: st) 0 (if f.now - tk > lg then f.now - tk else lg) = ((a - left, tk) :: st, if f.now - tk > lg then f.now - tk else lg) := takeOut_zero
              refine ⟨0, ?_, left - (if left < a then left else a), (a - left, tk) :: st, (if f.now - tk > lg then f.now - tk else lg), _, _, rfl, ?_, ?_, ?_, ?_, ?_⟩
              · rw [if_pos q']; omega
              · have := h4
                unfold setSt at this ⊢
                simp only [upS_same, upS_upS] at this
                exact ⟨_, _, _, _, this⟩
              · rw [e0, e2, ← e1, he]
              · intro x hx
                rcases List.mem_cons.mp hx with rfl | hx
                · show 0 < a - left
                  omega
                · exact hpr x hx
              · rw [e0]
                exact amt_nonneg fun x hx => by
                  rcases List.mem_cons.mp hx with rfl | hx
                  · show 0 < a - left
                    omega
                  · exact hpr x hx
              · rw [e0]; rfl
            · have c' : ¬ left < a := of_decide_eq_false (by simpa using c)
              refine ⟨_, rfl, _, _, _, _, _, rfl, h2.ins, T.cl_Flow, T.n_Flow_stock, rfl, _, rfl, _, _, _, _, rfl, rfl, SqL.of (h2.at_ .stock), catS, ?_⟩
              refine ⟨_, .ref t :: vs, _, 0, rfl, rfl, hsb2, by decide, by decide, by simp [seqIndex?], ?_⟩
              have h4 := h2.stkSet (b := b) (vs := vs) (st := st) (hts.keep hk)
              refine ⟨_, rfl, _, rfl, _, rfl, _, _, rfl, ?_⟩
              refine ⟨_, _, rfl, rfl, ?_⟩
              have e0 : left - (if left < a then left else a) = left - a := by rw [if_neg c']
              have e1 : takeOut f.now ((a, tk) :: st) left lg = takeOut f.now st (left - a) (if f.now - tk > lg then f.now - tk else lg) := by
                rw [takeOut, if_neg (by omega), if_neg c']
              refine ⟨_, ?_, left - (if left < a then left else a), st, (if f.now - tk > lg then f.now - tk else lg), _, _, rfl, ?_, ?_, ?_, ?_, rfl⟩
              · rw [if_pos q', List.length_cons, e0]
                by_cases y : 0 < left - a
                · rw [if_pos y]; omega
                · rw [if_neg y]; omega
              · have := h4
                unfold setSt at this ⊢
                simp only [upS_same, upS_upS] at this
                exact ⟨_, _, _, _, this⟩
              · rw [e0, ← e1, he]
              · exact hpr
              · rw [e0]; simp only at hl; omega
      · have q' : ¬ 0 < left := fun y => q (decide_eq_true y)
        have e : takeOut f.now st left lg = (st, lg) := by
          cases st with
          | nil => rfl
          | cons e st => obtain ⟨a, tk⟩ := e; rw [takeOut, if_pos (by omega)]
        refine k _ ?_
        rw [← he, e]
        exact ⟨_, _, _, _, h1⟩
end
end Sh

namespace Sh
open PySem L2 PySem.Spec PyProof.Rows
def spFlow_send (_ : PySem.W.Frag) (C : AD) : Sp := fun vs H Q _ => ∃ (H0 : Hp) (p : Addr) (z : FZ) (L : Ln) (f : Fl) (b : Bool) (n M : Int), vs = [.ref p, .int (sI b), .int n] ∧ FlowAt C H0 H p z L f ∧ Ok M f ∧ M ≤ 1000000 ∧ n ≤ kept (f.s b) ∧
  ∀ H', FlowAt C H0 H' p z L (send L f b n) → Q .non H'
section
variable {P : Program} {w : World} {K : PySem.W.Frag} {mg : Str → Option Value} {base : Heap} {C : AD}
section
variable {p q : Addr} {z : FZ} {H0 H H' : Hp} {L : Ln} {ad : Tg → Addr} {r : Bool → List V} {fl lg : List V} {f : Fl} {σ : L2.St} {i j : Nat} {Q : VK} {b : Bool}
theorem cgt {t : Tg} {s : Bool → Sd} (hp : isP t = true) : (cont ad r fl lg s t)[sN b]? = some (fv (s b) t) := by
  cases t <;> first | (cases hp; done) | (cases b <;> rfl)
theorem FlowR.logApp {y : Addr} {pc : Pc} (h : FlowR C H0 H p z L ad r fl lg f) (hy : H y = some (.tup (rowP pc))) : FlowR C H0 (L2.upd H (ad .log) (.lst (lg ++ [.ref y]))) p z L ad r fl (lg ++ [.ref y]) ⟨f.now, f.s, f.air, f.log ++ [pc]⟩ := by
  refine h.put (t := .log) rfl (fun u hu => by cases u <;> first | rfl | exact absurd rfl hu) h.rs h.fls ?_
  rw [List.map_append]
  exact h.lgs.snoc hy
theorem FlowR.airApp {y : Addr} {pc : Pc} (h : FlowR C H0 H p z L ad r fl lg f) (hy : H y = some (.tup (rowP pc))) : FlowR C H0 (L2.upd H (ad .flight) (.lst (fl ++ [.ref y]))) p z L ad r (fl ++ [.ref y]) lg ⟨f.now, f.s, f.air ++ [pc], f.log⟩ := by
  refine h.put (t := .flight) rfl (fun u hu => by cases u <;> first | rfl | exact absurd rfl hu) h.rs ?_ h.lgs
  rw [List.map_append]
  exact h.fls.snoc hy
theorem big_line {n : Nat} (h : (n : Int) ≤ 1000000) : n < sizeLine := by
  have h1 : n ≤ 1000000 := by omega
  exact Nat.lt_of_le_of_lt h1 (by decide)
end
abbrev sFlow_send : Stmt := inClass (topS 2) 4
theorem scFlow_send : FnScope ["self", "side", "amount"] ["self", "side", "amount"] (defScope sFlow_send) := ⟨rfl, rfl, rfl, by decide +kernel, rfl, by decide +kernel, by decide +kernel⟩
theorem okFlow_send {f : Addr} {fd : FuncData} (F : Fun K "send" "Flow.send" sFlow_send f fd) (T : Txt K mg C)
    (MFlow_take_out : MOk P w K mg base C.Flow "take_out" 1 ["self", "side", "amount"] (spFlow_take_out K C)) :
    FnOk P w K mg base CX0 2 f fd ["self", "side", "amount"] (spFlow_send K C) := by
  obtain ⟨_, _, GFlow_take_out, bFlow_take_out, mFlow_take_out⟩ := MFlow_take_out.ex
  refine F.ok scFlow_send (fun vs H Q E h => ?_) (fun cdv A outer s H vs Q E hr h => ?_)
  · obtain ⟨H0, p, z, L, f, b, n, M, rfl, _⟩ := h
    rfl
  · obtain ⟨H0, p, z, L, f, b, n, M, rfl, ⟨ad, r, fl, lg, h1⟩, ok, hM, hn, k⟩ := h
    refine ⟨_, (pss_cons (ps_expr (pe_meth (pv 0) T.cl_Flow mFlow_take_out GFlow_take_out (hr.mono (by decide)) bFlow_take_out .nil pass0 (pa_cons (pv 1) (pa_cons (pv 2) pa_nil))))
      (pss_cons (ps_augS (pe_fld (pv 0) rfl) (pv 1) get_list (pv 2) ip_add set_list)
      (Evl.pss_cut (ps_if (pt_chain op_lt op_lt pe_int (pv 2) (pe_fld (pe_fld (pv 0) rfl) rfl)) (pss_one (ps_asg (pe_ix ix_list (pe_fld (pv 0) rfl) (pv 1) (fun _ _ => rfl)) (pg_sub (pe_fld (pv 0) rfl) (pv 1) set_list))) pss_nil)
      (pss_cons (ps_expr (pe_bm PySem.F.plainAttrs_list PySem.F.slot_list_append PySem.F.type_list_append mt_append (pe_fld (pv 0) rfl) (pa_cons (pe_tup (pa_cons (pe_fld (pv 0) rfl) (pa_cons (pv 1) (pa_cons (pv 2) (pa_cons (pe_ix ix_list (pe_fld (pv 0) rfl) (pv 1) (fun _ _ => rfl)) pa_nil))))) pa_nil)))
      (pss_cons (ps_expr (pe_bm PySem.F.plainAttrs_list PySem.F.slot_list_append PySem.F.type_list_append mt_append (pe_fld (pv 0) rfl) (pa_cons (pe_tup (pa_cons (pe_op op_add (pe_fld (pv 0) rfl) (pe_fld (pe_fld (pv 0) rfl) rfl)) (pa_cons (pv 1) (pa_cons (pv 2) (pa_cons (pe_ix ix_list (pe_fld (pv 0) rfl) (pv 1) (fun _ _ => rfl)) pa_nil))))) pa_nil)))
      (pss_cons (ps_asg pe_int (pg_sub (pe_fld (pv 0) rfl) (pv 1) set_list))
      (pss_one (ps_asg pe_non (pg_sub (pe_fld (pv 0) rfl) (pv 1) set_list))))))))), ?_⟩
    -- self.take_out(side, amount)
    refine ⟨_, rfl, _, _, _, rfl, h1.ins, (by rfl), _, rfl, _, rfl, H0, p, z, L, f, b, n, rfl, ⟨_, _, _, _, h1⟩, ok.pos b, hn, ?_⟩
    rintro H1 ⟨ad, r, fl, lg, h2⟩
    generalize hf1 : setSt f b (takeOut f.now (f.s b).stock n (f.s b).long).1 (takeOut f.now (f.s b).stock n (f.s b).long).2 = f1 at h2
    -- self.out[side] += amount
    refine ⟨_, rfl, _, _, _, _, _, rfl, h2.ins, T.cl_Flow, T.n_Flow_out, rfl, _, rfl, _, _, sN b, _, rfl, congrArg V.int (sI_nat b), SqL.of (h2.at_ .out), cgt rfl, _, rfl, _, _, rfl, rfl, _, _, _, _, rfl, rfl, h2.at_ .out, ixc rfl, ?_⟩
    have h3 := h2.pair (t := .out) (b := b) (x' := { f1.s b with out := (f1.s b).out + n }) rfl rfl (fun u hu => by cases u <;> first | rfl | exact absurd rfl hu) rfl
    -- if 0 < amount < self.line.size
    refine ⟨fun σ' H' => σ' = [some (.ref p), some (.int (sI b)), some (.int n)] ∧ FlowR C H0 H' p z L ad r fl lg ⟨f1.now, upS f1.s b { f1.s b with out := (f1.s b).out + n, small := if 0 < n ∧ n < L.size then (f1.s b).out + n else (f1.s b).small }, f1.air, f1.log⟩, ?_, ?_⟩
    · refine ⟨_, rfl, _, _, rfl, rfl, _, rfl, ?_⟩
      refine ite2 (fun c1 => ?_) (fun c1 => ?_)
      · have c1' : 0 < n := of_decide_eq_true c1
        obtain ⟨dl, tl, hln⟩ := h3.lineH.ln
        refine ⟨_, rfl, _, _, _, _, _, rfl, h3.ins, T.cl_Flow, T.n_Flow_line, rfl, _, _, _, _, _, rfl, hln, T.cl_Line, T.n_Line_size, rfl, _, _, rfl, rfl, _, rfl, ?_⟩
        refine ite2 (fun c2 => ?_) (fun c2 => ?_)
        · have c2' : n < L.size := of_decide_eq_true c2
          refine ⟨_, rfl, _, _, _, _, _, rfl, h3.ins, T.cl_Flow, T.n_Flow_out, rfl, _, rfl, _, _, _, _, rfl, rfl, SqL.of (h3.at_ .out), cat2 rfl, _, rfl, _, _, _, _, _, rfl, h3.ins, T.cl_Flow, T.n_Flow_small, rfl, _, rfl, _, _, _, _, rfl, rfl, h3.at_ .small, ixc rfl, rfl, ?_⟩
          have h4 := h3.pair (t := .small) (b := b) (x' := { f1.s b with out := (f1.s b).out + n, small := (f1.s b).out + n }) (v := .int ((f1.s b).out + n)) rfl rfl (fun u hu => by simp only [upS_same]; cases u <;> first | rfl | exact absurd rfl hu) (by simp only [upS_same])
          simp only [upS_upS] at h4
          rw [if_pos ⟨c1', c2'⟩]
          simp only [upS_same, fv]
          exact h4
        · have c2' : ¬ n < L.size := fun y => c2 (decide_eq_true y)
          refine ⟨rfl, ?_⟩
          rw [if_neg fun y => c2' y.2]
          exact h3
      · have c1' : ¬ 0 < n := fun y => c1 (decide_eq_true y)
        refine ⟨_, rfl, ?_⟩
        refine ⟨rfl, ?_⟩
        rw [if_neg fun y => c1' y.1]
        exact h3
    · rintro σ' H' ⟨rfl, h5⟩
      have hlog : f1.log = f.log := by rw [← hf1]; rfl
      have hair : f1.air = f.air := by rw [← hf1]; rfl
      have llog : lg.length < sizeLine := by
        have e := h5.lgs.length
        rw [List.length_map] at e
        have e2 : lg.length = f.log.length := by rw [e]; exact congrArg List.length hlog
        have := ok.logLen
        exact big_line (by rw [e2]; omega)
      have lair : fl.length < sizeLine := by
        have e := h5.fls.length
        rw [List.length_map] at e
        have e2 : fl.length = f.air.length := by rw [e]; exact congrArg List.length hair
        have := ok.airLen
        exact big_line (by rw [e2]; omega)
      generalize hf5 : (⟨f1.now, upS f1.s b { f1.s b with out := (f1.s b).out + n, small := if 0 < n ∧ n < L.size then (f1.s b).out + n else (f1.s b).small }, f1.air, f1.log⟩ : Fl) = f5 at h5
      -- self.log.append
      refine ⟨_, rfl, _, _, _, _, _, rfl, h5.ins, T.cl_Flow, T.n_Flow_log, rfl, .inl ⟨rfl, _, SqL.of (h5.at_ .log)⟩, _, rfl, _, _, _, _, _, rfl, h5.ins, T.cl_Flow, T.n_Flow_tick, rfl, _, rfl, _, rfl, _, rfl, _, _, _, _, _, rfl, h5.ins, T.cl_Flow, T.n_Flow_come, rfl, _, rfl, _, _, _, _, rfl, rfl, SqL.of (h5.at_ .come), cat2 rfl, by show 4 ≤ sizeLine; decide, fun y hy => ?_⟩
      have h6 := (h5.ext (same_upd (o := .tup (rowP ⟨f5.now, b, n, (f5.s b).come⟩)) hy)).logApp (y := y) (pc := ⟨f5.now, b, n, (f5.s b).come⟩) upd_same
      refine ⟨_, _, _, rfl, rfl, (h5.ext (same_upd hy)).at_ .log, llog, ?_⟩
      -- self.flight.append
      obtain ⟨dl, tl, hln⟩ := h6.lineH.ln
      refine ⟨_, rfl, _, _, _, _, _, rfl, h6.ins, T.cl_Flow, T.n_Flow_flight, rfl, .inl ⟨rfl, _, SqL.of (h6.at_ .flight)⟩, _, rfl, _, _, _, _, _, rfl, h6.ins, T.cl_Flow, T.n_Flow_tick, rfl, _, rfl, _, _, _, _, _, rfl, h6.ins, T.cl_Flow, T.n_Flow_line, rfl, _, _, _, _, _, rfl, hln, T.cl_Line, T.n_Line_way, rfl, _, _, rfl, rfl, _, rfl, _, rfl, _, rfl, _, _, _, _, _, rfl, h6.ins, T.cl_Flow, T.n_Flow_come, rfl, _, rfl, _, _, _, _, rfl, rfl, SqL.of (h6.at_ .come), cat2 rfl, by show 4 ≤ sizeLine; decide, fun y2 hy2 => ?_⟩
      have h7 := (h6.ext (same_upd (o := .tup (rowP ⟨f5.now + L.way, b, n, (f5.s b).come⟩)) hy2)).airApp (y := y2) (pc := ⟨f5.now + L.way, b, n, (f5.s b).come⟩) upd_same
      refine ⟨_, _, _, rfl, rfl, (h6.ext (same_upd hy2)).at_ .flight, lair, ?_⟩
      -- self.full[side] = 0; self.first[side] = None
      refine ⟨_, rfl, _, _, _, _, _, rfl, h7.ins, T.cl_Flow, T.n_Flow_full, rfl, _, rfl, _, _, _, _, rfl, rfl, h7.at_ .full, ixc rfl, ?_⟩
      have h8 := h7.pair (t := .full) (b := b) (x' := { f5.s b with full := 0 }) (v := .int 0) rfl rfl (fun u hu => by cases u <;> first | rfl | exact absurd rfl hu) rfl
      refine ⟨_, rfl, _, _, _, _, _, rfl, h8.ins, T.cl_Flow, T.n_Flow_first, rfl, _, rfl, _, _, _, _, rfl, rfl, h8.at_ .first, ixc rfl, ?_⟩
      have h9 := h8.pair (t := .first) (b := b) (x' := { f5.s b with full := 0, first := none }) (v := .non) rfl rfl (fun u hu => by simp only [upS_same]; cases u <;> first | rfl | exact absurd rfl hu) (by simp only [upS_same])
      simp only [upS_upS] at h9
      refine k _ ?_
      have e : (⟨f5.now, upS f5.s b { f5.s b with full := 0, first := none }, f5.air ++ [⟨f5.now + L.way, b, n, (f5.s b).come⟩], f5.log ++ [⟨f5.now, b, n, (f5.s b).come⟩]⟩ : Fl) = send L f b n := by
        rw [← hf5, ← hf1]
        unfold send setSt sentSd
        simp only [upS_same, upS_upS]
      rw [← e]
      exact ⟨_, _, _, _, h9⟩
end
end Sh

namespace Sh
open PySem L2 PySem.Spec PyProof.Rows
def spFlow_lets (_ : PySem.W.Frag) (C : AD) : Sp := fun vs H Q _ => ∃ (H0 : Hp) (p : Addr) (z : FZ) (L : Ln) (f : Fl) (b : Bool), vs = [.ref p, .int (sI b)] ∧ FlowAt C H0 H p z L f ∧ Q (.bl (lets L f b)) H
def spFlow_let_go (_ : PySem.W.Frag) (C : AD) : Sp := fun vs H Q _ => ∃ (H0 : Hp) (p : Addr) (z : FZ) (L : Ln) (f : Fl) (b : Bool) (M : Int), vs = [.ref p, .int (sI b)] ∧ FlowAt C H0 H p z L f ∧ LnOk L ∧ Ok M f ∧ M ≤ 1000000 ∧
  ∀ H', FlowAt C H0 H' p z L (letGo L b f) → Q .non H'
def spFlow_put (_ : PySem.W.Frag) (C : AD) : Sp := fun vs H Q _ => ∃ (H0 : Hp) (p : Addr) (z : FZ) (L : Ln) (f : Fl) (b : Bool) (n M : Int), vs = [.ref p, .int (sI b), .int n] ∧ FlowAt C H0 H p z L f ∧ LnOk L ∧ Ok (M - 4 * n) f ∧ 0 < n ∧ M ≤ 1000000 ∧
  ∀ H', FlowAt C H0 H' p z L (put L f b n) → Q .non H'
theorem iteY {c A B : Prop} [Decidable c] (h : c) (a : A) : if c then A else B := by rw [if_pos h]; exact a
theorem iteN {c A B : Prop} [Decidable c] (h : ¬ c) (a : B) : if c then A else B := by rw [if_neg h]; exact a
theorem dI {x y : Int} : decide (V.int x = V.int y) = decide (x = y) := by simp
def setOf (z : FZ) (b : Bool) : Addr := if b then z.far else z.near
theorem LnZ.set {C : AD} {H : Hp} {z : FZ} {L : Ln} (h : LineAt C H z.ln z.near z.far L) (b : Bool) : ∃ dx t, H (setOf z b) = some (.ins C.Setting dx (fSetg (L.st b) t)) := by
  cases b
  · obtain ⟨dx, t, _, e, _⟩ := h.near; exact ⟨dx, t, e⟩
  · obtain ⟨dx, t, _, e, _⟩ := h.far; exact ⟨dx, t, e⟩
theorem setIx (z : FZ) (b : Bool) : atI [V.ref z.near, V.ref z.far] (sI b) = some (.ref (setOf z b)) := by cases b <;> rfl
section
variable {P : Program} {w : World} {K : PySem.W.Frag} {mg : Str → Option Value} {base : Heap} {C : AD}
abbrev sFlow_lets : Stmt := inClass (topS 2) 5
theorem scFlow_lets : FnScope ["self", "side", "rule"] ["self", "side"] (defScope sFlow_lets) := ⟨rfl, rfl, rfl, by decide +kernel, rfl, by decide +kernel, by decide +kernel⟩
theorem okFlow_lets {f : Addr} {fd : FuncData} (F : Fun K "lets" "Flow.lets" sFlow_lets f fd) (T : Txt K mg C) :
    FnOk P w K mg base CX0 1 f fd ["self", "side"] (spFlow_lets K C) := by
  refine F.ok scFlow_lets (fun vs H Q E h => ?_) (fun cdv A outer s H vs Q E hr h => ?_)
  · obtain ⟨H0, p, z, L, f, b, rfl, _⟩ := h
    rfl
  · obtain ⟨H0, p, z, L, f, b, rfl, ⟨ad, r, fl, lg, h1⟩, k⟩ := h
    refine ⟨_, (pss_cons (ps_set (i := 2) scFlow_lets.nd rfl (Or.inl rfl) (pe_fld (pe_ix ix_tup (pe_fld (pv 0) rfl) (pv 1) (fun _ _ => rfl)) rfl))
      (pss_cons (ps_if (pt_cmpR op_eq (pv 2) pe_str (nomark _)) (pss_one (ps_ret (pe_cmpR op_eq (pe_ix ix_list (pe_fld (pv 0) rfl) (pv 1) (fun _ _ => rfl)) (pe_ix ix_list (pe_fld (pv 0) rfl) (pv 1) (fun _ _ => rfl)) (nomark _)))) pss_nil)
      (pss_one (ps_ret (pe_or (pe_cmpR op_eq (pv 2) pe_str (nomark _)) (pe_one (pe_cmpR op_le (pe_ix ix_list (pe_fld (pv 0) rfl) (pv 1) (fun _ _ => rfl)) (pe_ix ix_list (pe_fld (pv 0) rfl) (pv 1) (fun _ _ => rfl)) (nomark _)))))))), ?_⟩
    obtain ⟨dx, t, hset⟩ := LnZ.set h1.lineH b
    refine ⟨_, rfl, _, _, _, _, _, rfl, h1.ins, T.cl_Flow, T.n_Flow_settings, rfl, _, rfl, _, _, _, _, rfl, rfl, SqT.of h1.stgH, setIx z b, _, _, _, _, _, rfl, hset, T.cl_Setting, T.n_Setting_rule, rfl, ?_⟩
    unfold lets at k
    cases hr : (L.st b).rule with
    | hold =>
      rw [hr] at k
      refine ⟨_, rfl, rfl, _, rfl, ?_⟩
      refine iteY (by decide +kernel) ?_
      refine ⟨_, rfl, _, _, _, _, _, rfl, h1.ins, T.cl_Flow, T.n_Flow_out, rfl, _, rfl, _, _, _, _, rfl, rfl, SqL.of (h1.at_ .out), cat2 rfl, _, rfl, _, _, _, _, _, rfl, h1.ins, T.cl_Flow, T.n_Flow_known, rfl, _, rfl, _, _, _, _, rfl, rfl, SqL.of (h1.at_ .known), cat2 rfl, rfl, ?_⟩
      show Q (V.bl (decide (V.int (f.s b).out = V.int (f.s b).known))) H
      rw [dI]
      exact k
    | plain =>
      rw [hr] at k
      refine ⟨_, rfl, rfl, _, rfl, ?_⟩
      refine iteN (by decide +kernel) ?_
      refine ⟨_, rfl, rfl, _, rfl, ?_⟩
      refine iteY (by decide +kernel) ?_
      exact k
    | few =>
      rw [hr] at k
      refine ⟨_, rfl, rfl, _, rfl, ?_⟩
      refine iteN (by decide +kernel) ?_
      refine ⟨_, rfl, rfl, _, rfl, ?_⟩
      refine iteN (by decide +kernel) ?_
      refine ⟨_, rfl, _, _, _, _, _, rfl, h1.ins, T.cl_Flow, T.n_Flow_small, rfl, _, rfl, _, _, _, _, rfl, rfl, SqL.of (h1.at_ .small), cat2 rfl, _, rfl, _, _, _, _, _, rfl, h1.ins, T.cl_Flow, T.n_Flow_known, rfl, _, rfl, _, _, _, _, rfl, rfl, SqL.of (h1.at_ .known), cat2 rfl, _, _, rfl, rfl, ?_⟩
      exact k
abbrev sFlow_let_go : Stmt := inClass (topS 2) 6
theorem scFlow_let_go : FnScope ["self", "side", "amount"] ["self", "side"] (defScope sFlow_let_go) := ⟨rfl, rfl, rfl, by decide +kernel, rfl, by decide +kernel, by decide +kernel⟩
theorem okFlow_let_go {f : Addr} {fd : FuncData} (F : Fun K "let_go" "Flow.let_go" sFlow_let_go f fd) (T : Txt K mg C)
    (MFlow_lets : MOk P w K mg base C.Flow "lets" 1 ["self", "side"] (spFlow_lets K C))
    (MFlow_send : MOk P w K mg base C.Flow "send" 2 ["self", "side", "amount"] (spFlow_send K C))
    (MFlow_kept : MOk P w K mg base C.Flow "kept" 1 ["self", "side"] (spFlow_kept K C)) :
    FnOk P w K mg base CX0 3 f fd ["self", "side"] (spFlow_let_go K C) := by
  obtain ⟨_, _, GFlow_lets, bFlow_lets, mFlow_lets⟩ := MFlow_lets.ex
  obtain ⟨_, _, GFlow_send, bFlow_send, mFlow_send⟩ := MFlow_send.ex
  obtain ⟨_, _, GFlow_kept, bFlow_kept, mFlow_kept⟩ := MFlow_kept.ex
  refine F.ok scFlow_let_go (fun vs H Q E h => ?_) (fun cdv A outer s H vs Q E hr h => ?_)
  · obtain ⟨H0, p, z, L, f, b, M, rfl, _⟩ := h
    rfl
  · obtain ⟨H0, p, z, L, f, b, M, rfl, h0, hL, ok, hM, k⟩ := h
    refine ⟨_, (pss_cons (ps_while PassesOwn.never (pt_cmpR op_ge (pe_meth (pv 0) T.cl_Flow mFlow_kept GFlow_kept (hr.mono (by decide)) bFlow_kept .nil pass0 (pa_cons (pv 1) pa_nil)) (pe_fld (pe_fld (pv 0) rfl) rfl) (nomark _)) (pss_one (ps_expr (pe_meth (pv 0) T.cl_Flow mFlow_send GFlow_send (hr.mono (by decide)) bFlow_send .nil pass0 (pa_cons (pv 1) (pa_cons (pe_fld (pe_fld (pv 0) rfl) rfl) pa_nil))))))
      (pss_cons (ps_set (i := 2) scFlow_let_go.nd rfl (Or.inl rfl) (pe_meth (pv 0) T.cl_Flow mFlow_kept GFlow_kept (hr.mono (by decide)) bFlow_kept .nil pass0 (pa_cons (pv 1) pa_nil)))
      (pss_one (ps_if (PW.pt (pw_and (pt_cmpR op_gt (pv 2) pe_int (nomark _)) (pw_and1 (pt_val (pe_meth (pv 0) T.cl_Flow mFlow_lets GFlow_lets (hr.mono (by decide)) bFlow_lets .nil pass0 (pa_cons (pv 1) pa_nil)))))) (pss_one (ps_expr (pe_meth (pv 0) T.cl_Flow mFlow_send GFlow_send (hr.mono (by decide)) bFlow_send .nil pass0 (pa_cons (pv 1) (pa_cons (pv 2) pa_nil))))) pss_nil)))), ?_⟩
    have stk : ∀ {g : Fl}, Ok M g → (g.s b).stock.length ≤ 1000000 := fun {g} o => by have := o.stock b; omega
    refine ⟨fun m σ H => ∃ g v2, σ = [some (.ref p), some (.int (sI b)), v2] ∧ FlowAt C H0 H p z L g ∧ Ok M g ∧ goFull L b (kept (g.s b)).toNat g = goFull L b (kept (f.s b)).toNat f ∧ m = (kept (g.s b)).toNat,
      ⟨_, f, _, rfl, h0, ok, rfl, rfl⟩, ?_⟩
    rintro m σ H ⟨g, v2, rfl, ⟨ad, r, fl, lg, h1⟩, okg, eg, rfl⟩
    refine ⟨_, rfl, _, _, _, rfl, h1.ins, (by rfl), _, rfl, H0, p, z, L, g, b, rfl, ⟨_, _, _, _, h1⟩, stk okg, fun H1 e1 => ?_⟩
    have h2 := h1.ext e1
    obtain ⟨dl, tl, hln⟩ := h2.lineH.ln
    refine ⟨_, rfl, _, _, _, _, _, rfl, h2.ins, T.cl_Flow, T.n_Flow_line, rfl, _, _, _, _, _, rfl, hln, T.cl_Line, T.n_Line_size, rfl, _, _, rfl, rfl, _, rfl, ?_⟩
    refine ite2 (fun c => ?_) (fun c => ?_)
    · have c' : L.size ≤ kept (g.s b) := of_decide_eq_true c
      have s1 := hL.size1
      refine ⟨_, fun _ _ n => n, ?_⟩
      refine ⟨_, rfl, _, _, _, rfl, h2.ins, (by rfl), _, rfl, _, rfl, _, _, _, _, _, rfl, h2.ins, T.cl_Flow, T.n_Flow_line, rfl, _, _, _, _, _, rfl, hln, T.cl_Line, T.n_Line_size, rfl, H0, p, z, L, g, b, L.size, M, rfl, ⟨_, _, _, _, h2⟩, okg, hM, c', fun H3 h3 => ?_⟩
      have ek : kept ((send L g b L.size).s b) = kept (g.s b) - L.size := by rw [send_same, kept_sent (okg.pos b) (by omega) c']
      refine ⟨(kept ((send L g b L.size).s b)).toNat, by rw [ek]; omega, send L g b L.size, _, rfl, h3, send_ok okg (by omega) c' (.inl (by omega)), ?_, rfl⟩
      rw [← eg]
      have o2 : Ok M (send L g b L.size) := send_ok okg (by omega) c' (.inl (by omega))
      have e1 : goFull L b (kept (g.s b)).toNat g = goFull L b ((kept (g.s b)).toNat - 1) (send L g b L.size) := by
        have : (kept (g.s b)).toNat = ((kept (g.s b)).toNat - 1) + 1 := by omega
        rw [this, goFull, if_pos c', Nat.add_sub_cancel]
      rw [e1]
      exact goFull_fuel hL _ _ _ (o2.pos b) (by rw [ek]; omega) (by rw [ek]; omega)
    · have c' : ¬ L.size ≤ kept (g.s b) := fun y => c (decide_eq_true y)
      have hg : g = goFull L b (kept (f.s b)).toNat f := by
        rw [← eg]
        cases hk : (kept (g.s b)).toNat with
        | zero => rw [goFull]
        | succ m => rw [goFull, if_neg c']
      have h3 := h2
      refine ⟨_, rfl, _, _, _, rfl, h2.ins, (by rfl), _, rfl, H0, p, z, L, g, b, rfl, ⟨_, _, _, _, h2⟩, stk okg, fun H3 e3 => ?_⟩
      have h4 := h2.ext e3
      have fin : goSmall L b g = letGo L b f := by unfold letGo; rw [← hg]
      -- if amount > 0 and self.lets(side)
      refine ⟨_, rfl, _, _, rfl, rfl, _, rfl, ?_⟩
      refine ite2 (fun c1 => ?_) (fun c1 => ?_)
      · have c1' : 0 < kept (g.s b) := of_decide_eq_true c1
        refine ⟨_, rfl, _, _, _, rfl, h4.ins, (by rfl), _, rfl, H0, p, z, L, g, b, rfl, ⟨_, _, _, _, h4⟩, _, rfl, ?_⟩
        refine ite2 (fun c2 => ?_) (fun c2 => ?_)
        · refine ⟨_, rfl, _, _, _, rfl, h4.ins, (by rfl), _, rfl, _, rfl, H0, p, z, L, g, b, _, M, rfl, ⟨_, _, _, _, h4⟩, okg, hM, Int.le_refl _, fun H5 h5 => ?_⟩
          refine k _ ?_
          rw [← fin, goSmall, if_pos ⟨c1', c2⟩]
          exact h5
        · refine k _ ?_
          rw [← fin, goSmall, if_neg fun y => c2 y.2]
          exact ⟨_, _, _, _, h4⟩
      · have c1' : ¬ 0 < kept (g.s b) := fun y => c1 (decide_eq_true y)
        refine iteF ?_
        refine k _ ?_
        rw [← fin, goSmall, if_neg fun y => c1' y.1]
        exact ⟨_, _, _, _, h4⟩
abbrev sFlow_put : Stmt := inClass (topS 2) 7
theorem scFlow_put : FnScope ["self", "side", "amount"] ["self", "side", "amount"] (defScope sFlow_put) := ⟨rfl, rfl, rfl, by decide +kernel, rfl, by decide +kernel, by decide +kernel⟩
theorem okFlow_put {f : Addr} {fd : FuncData} (F : Fun K "put" "Flow.put" sFlow_put f fd) (T : Txt K mg C)
    (MFlow_let_go : MOk P w K mg base C.Flow "let_go" 3 ["self", "side"] (spFlow_let_go K C)) :
    FnOk P w K mg base CX0 4 f fd ["self", "side", "amount"] (spFlow_put K C) := by
  obtain ⟨_, _, GFlow_let_go, bFlow_let_go, mFlow_let_go⟩ := MFlow_let_go.ex
  refine F.ok scFlow_put (fun vs H Q E h => ?_) (fun cdv A outer s H vs Q E hr h => ?_)
  · obtain ⟨H0, p, z, L, f, b, n, M, rfl, _⟩ := h
    rfl
  · obtain ⟨H0, p, z, L, f, b, n, M, rfl, ⟨ad, r, fl, lg, h1⟩, hL, ok, hn, hM, k⟩ := h
    refine ⟨_, (pss_cons (ps_expr (pe_bm PySem.F.plainAttrs_list PySem.F.slot_list_append PySem.F.type_list_append mt_append (pe_ix ix_list (pe_fld (pv 0) rfl) (pv 1) (fun _ _ => rfl)) (pa_cons (pe_tup (pa_cons (pv 2) (pa_cons (pe_fld (pv 0) rfl) pa_nil))) pa_nil)))
      (pss_one (ps_expr (pe_meth (pv 0) T.cl_Flow mFlow_let_go GFlow_let_go (hr.mono (by decide)) bFlow_let_go .nil pass0 (pa_cons (pv 1) pa_nil))))), ?_⟩
    have hlen : (r b).length < sizeLine := by
      have e := (h1.rs b).length
      rw [List.length_map] at e
      have := ok.stock b
      exact big_line (by rw [e]; omega)
    refine ⟨_, rfl, _, _, _, _, _, rfl, h1.ins, T.cl_Flow, T.n_Flow_stock, rfl, _, rfl, _, _, _, _, rfl, rfl, SqL.of (h1.at_ .stock), catS, .inl ⟨rfl, _, SqL.of (h1.stk b)⟩, _, rfl, _, rfl, _, _, _, _, _, rfl, h1.ins, T.cl_Flow, T.n_Flow_tick, rfl, by show 2 ≤ sizeLine; decide, fun y hy => ?_⟩
    have h2 := h1.ext (same_upd (o := .tup (rowS (n, f.now))) hy)
    have h3 := h2.stkSet (b := b) (vs := r b ++ [.ref y]) (st := (f.s b).stock ++ [(n, f.now)]) (by rw [List.map_append]; exact (h2.rs b).snoc upd_same)
    refine ⟨_, _, _, rfl, rfl, h2.stk b, hlen, ?_⟩
    refine ⟨_, rfl, _, _, _, rfl, h3.ins, (by rfl), _, rfl, H0, p, z, L, addStock f b n, b, M, rfl, ⟨_, _, _, _, h3⟩, hL, addStock_ok ok hn, hM, fun H' h' => k H' h'⟩
end
end Sh

namespace Sh
open PySem L2 PySem.Spec PyProof.Rows
def spFlow_land (_ : PySem.W.Frag) (C : AD) : Sp := fun vs H Q _ => ∃ (H0 : Hp) (p : Addr) (z : FZ) (L : Ln) (f : Fl) (pc : Pc), vs = [.ref p, .int (sI pc.sd), .int pc.n, .int pc.ans] ∧ FlowAt C H0 H p z L f ∧
  ∀ H', FlowAt C H0 H' p z L (land L f pc) → Q .non H'
def spFlow_is_due (_ : PySem.W.Frag) (C : AD) : Sp := fun vs H Q _ => ∃ (H0 : Hp) (p : Addr) (z : FZ) (L : Ln) (f : Fl) (b : Bool), vs = [.ref p, .int (sI b)] ∧ FlowAt C H0 H p z L f ∧ Q (.bl (isDue L f b)) H
theorem optV_non {o : Option Int} : decide (optV o = V.non) = o.isNone := by cases o <;> simp [optV]
section
variable {C : AD} {p q : Addr} {z : FZ} {H0 H H' : Hp} {L : Ln} {ad : Tg → Addr} {r : Bool → List V} {fl lg : List V} {f : Fl} {o : HO}
/-- a thing made meanwhile, put into the base -/
theorem FlowAt.newE (h : FlowAt C H0 H p z L f) (hq : H q = none) (e : Same H H') (hq' : H' q = some o) : FlowAt C (L2.upd H0 q o) H' p z L f := by
  obtain ⟨ad, r, fl, lg, h⟩ := h
  have hq0 : H0 q = none := h.same.free hq
  have h' := h.ext e
  refine ⟨ad, r, fl, lg, ⟨fun b u hb => ?_, ?_, fun t => ?_, h.inj, h'.ins, h'.at_, h'.rs, h'.fls, h'.lgs, h.line.same (same_upd hq0)⟩⟩
  · by_cases y : b = q
    · subst y; rw [upd_same] at hb; rw [hq']; exact hb
    · rw [upd_ne y] at hb; exact h'.same _ _ hb
  · rw [upd_ne (ne_of_none h.ins hq)]; exact h.p0
  · rw [upd_ne (ne_of_none (h.at_ t) hq)]; exact h.a0 t
/-- the base and all tuples -/
def withT (H0 H : Hp) : Hp := fun a => match H0 a with
  | some o => some o
  | none => match H a with
    | some (.tup xs) => some (.tup xs)
    | _ => none
theorem withT_same : Same H0 (withT H0 H) := fun b u hb => by unfold withT; rw [hb]
theorem withT_tup (s : Same H0 H) {a : Addr} {xs : List V} (h : H a = some (.tup xs)) : withT H0 H a = some (.tup xs) := by
  unfold withT
  cases e : H0 a with
  | some o => have := s _ _ e; rw [h] at this; exact this.symm
  | none => simp only [h]
theorem withT_sub (s : Same H0 H) : Same (withT H0 H) H := fun b u hb => by
  unfold withT at hb
  cases e : H0 b with
  | some o => rw [e] at hb; cases hb; exact s _ _ e
  | none =>
    rw [e] at hb
    simp only at hb
    split at hb
    · rename_i xs e'; cases hb; exact e'
    · cases hb
theorem FlowAt.upT (h : FlowAt C H0 H p z L f) : FlowAt C (withT H0 H) H p z L f := by
  obtain ⟨ad, r, fl, lg, h⟩ := h
  refine ⟨ad, r, fl, lg, ⟨withT_sub h.same, ?_, fun t => ?_, h.inj, h.ins, h.at_, h.rs, h.fls, h.lgs, h.line.same withT_same⟩⟩
  · unfold withT; simp only [h.p0, h.ins]
  · unfold withT; simp only [h.a0 t, h.at_ t]
theorem FlowAt.sameB (h : FlowAt C H0 H p z L f) : Same H0 H := by
  obtain ⟨ad, r, fl, lg, h⟩ := h
  exact h.same
theorem FlowAt.lnz (h : FlowAt C H0 H p z L f) : LnZ C H0 z L := by
  obtain ⟨ad, r, fl, lg, h⟩ := h
  exact h.line
theorem Tups.withT {vs : List V} {rows : List (List V)} (s : Same H0 H) : Tups H vs rows → Tups (withT H0 H) vs rows := fun h => h.keep' fun a xs e => withT_tup s e
/-- self.flight = a new list -/
theorem FlowR.newAir {D : Addr} {fl' : List V} {air' : List Pc} (h : FlowR C H0 H p z L ad r fl lg f) (hD : H D = some (.lst fl')) (h0 : H0 D = none) (hn : ∀ t, ad t ≠ D) (ht : Tups H fl' (air'.map rowP)) :
    FlowR C H0 (L2.upd H p (.ins C.Flow z.dx (fFlow z.ln z.stg f.now (fun t => if t = .flight then D else ad t)))) p z L (fun t => if t = .flight then D else ad t) r fl' lg { f with air := air' } := by
  have hp : p ≠ D := ne_of h.ins hD (by intro y; cases y)
  have k : KT H (L2.upd H p (.ins C.Flow z.dx (fFlow z.ln z.stg f.now (fun t => if t = .flight then D else ad t)))) := KT.ins h.ins
  refine ⟨Same.upd0 h.same h.p0, h.p0, fun t => ?_, fun t u e => ?_, upd_same, fun t => ?_, fun b => (h.rs b).keep k, ht.keep k, h.lgs.keep k, h.line⟩
  · show H0 (if t = .flight then D else ad t) = none
    split
    · exact h0
    · exact h.a0 t
  · replace e : (if t = .flight then D else ad t) = (if u = .flight then D else ad u) := e
    split at e
    · split at e
      · rename_i a b; rw [a, b]
      · exact absurd e.symm (hn u)
    · split at e
      · exact absurd e (hn t)
      · exact h.inj _ _ e
  · show L2.upd H p _ (if t = .flight then D else ad t) = _
    split
    · rename_i e; subst e
      rw [upd_ne hp.symm]; exact hD
    · rename_i e
      rw [upd_ne (h.pne t).symm, h.at_ t]
      cases t <;> first | rfl | exact absurd rfl e
end
section
variable {P : Program} {w : World} {K : PySem.W.Frag} {mg : Str → Option Value} {base : Heap} {C : AD}
abbrev sFlow_land : Stmt := inClass (topS 2) 8
theorem scFlow_land : FnScope ["self", "sender", "amount", "answered", "side"] ["self", "sender", "amount", "answered"] (defScope sFlow_land) := ⟨rfl, rfl, rfl, by decide +kernel, rfl, by decide +kernel, by decide +kernel⟩
theorem okFlow_land {f : Addr} {fd : FuncData} (F : Fun K "land" "Flow.land" sFlow_land f fd) (T : Txt K mg C) :
    FnOk P w K mg base CX0 1 f fd ["self", "sender", "amount", "answered"] (spFlow_land K C) := by
  refine F.ok scFlow_land (fun vs H Q E h => ?_) (fun cdv A outer s H vs Q E hr h => ?_)
  · obtain ⟨H0, p, z, L, f, pc, rfl, _⟩ := h
    rfl
  · obtain ⟨H0, p, z, L, f, pc, rfl, ⟨ad, r, fl, lg, h1⟩, k⟩ := h
    refine ⟨_, (pss_cons (ps_set (i := 4) scFlow_land.nd rfl (Or.inl rfl) (pe_op op_sub pe_int (pv 1)))
      (pss_cons (ps_asg (pe_callB (call_max2 rfl) (by rfl) T.z_max (by decide +kernel) (pa_cons (pe_ix ix_list (pe_fld (pv 0) rfl) (pv 4) (fun _ _ => rfl)) (pa_cons (pv 3) pa_nil))) (pg_sub (pe_fld (pv 0) rfl) (pv 4) set_list))
      (pss_one (ps_if (pt_cmpR op_gt (pv 2) pe_int (nomark _)) (pss_cons (ps_augS (pe_fld (pv 0) rfl) (pv 4) get_list (pv 2) ip_add set_list)
      (Evl.pss_cut (ps_if (pt_cmpR op_eq (pv 2) (pe_fld (pe_fld (pv 0) rfl) rfl) (nomark _)) (pss_one (ps_augS (pe_fld (pv 0) rfl) (pv 4) get_list pe_int ip_add set_list)) pss_nil)
      (pss_one (ps_if (pt_cmpR op_isN (pe_ix ix_list (pe_fld (pv 0) rfl) (pv 4) (fun _ _ => rfl)) pe_non (nomark _)) (pss_one (ps_asg (pe_fld (pv 0) rfl) (pg_sub (pe_fld (pv 0) rfl) (pv 4) set_list))) pss_nil)))) pss_nil)))), ?_⟩
    obtain ⟨t, sd, n, ans⟩ := pc
    simp only at k ⊢
    refine ⟨_, rfl, _, _, rfl, rfl, ?_⟩
    simp only [sI_not]
    generalize hb : (!sd) = b at k ⊢
    refine ⟨_, rfl, _, _, _, _, _, rfl, h1.ins, T.cl_Flow, T.n_Flow_known, rfl, _, rfl, _, _, _, _, rfl, rfl, SqL.of (h1.at_ .known), cat2 rfl, _, rfl, _, _, rfl, _, rfl, _, _, _, _, _, rfl, h1.ins, T.cl_Flow, T.n_Flow_known, rfl, _, rfl, _, _, _, _, rfl, rfl, h1.at_ .known, ixc rfl, ?_⟩
    have h2 := h1.pair (t := .known) (b := b) (x' := { f.s b with known := if ans > (f.s b).known then ans else (f.s b).known }) rfl rfl (fun u hu => by cases u <;> first | rfl | exact absurd rfl hu) rfl
    have el : land L f ⟨t, sd, n, ans⟩ = { f with s := upS f.s b (landSd L f.now (f.s b) n ans) } := by unfold land; rw [hb]
    rw [el] at k
    refine ⟨_, rfl, _, _, rfl, rfl, _, rfl, ?_⟩
    refine ite2 (fun c1 => ?_) (fun c1 => ?_)
    · have c1' : 0 < n := of_decide_eq_true c1
      refine ⟨_, rfl, _, _, _, _, _, rfl, h2.ins, T.cl_Flow, T.n_Flow_come, rfl, _, rfl, _, _, sN b, _, rfl, congrArg V.int (sI_nat b), SqL.of (h2.at_ .come), cgt rfl, _, rfl, _, _, rfl, rfl, _, _, _, _, rfl, rfl, h2.at_ .come, ixc rfl, ?_⟩
      have h3 := h2.pair (t := .come) (b := b) (x' := { f.s b with known := if ans > (f.s b).known then ans else (f.s b).known, come := (f.s b).come + n }) (v := .int ((f.s b).come + n)) rfl rfl (fun u hu => by simp only [upS_same]; cases u <;> first | rfl | exact absurd rfl hu) (by simp only [upS_same])
      simp only [upS_upS] at h3
      simp only [upS_same, fv]
      refine ⟨fun σ' H' => σ' = [some (.ref p), some (.int (sI sd)), some (.int n), some (.int ans), some (.int (sI b))] ∧
        FlowR C H0 H' p z L ad r fl lg ⟨f.now, upS f.s b { f.s b with known := if ans > (f.s b).known then ans else (f.s b).known, come := (f.s b).come + n, full := if n = L.size then (f.s b).full + 1 else (f.s b).full }, f.air, f.log⟩, ?_, ?_⟩
      · obtain ⟨dl, tl, hln⟩ := h3.lineH.ln
        refine ⟨_, rfl, _, rfl, _, _, _, _, _, rfl, h3.ins, T.cl_Flow, T.n_Flow_line, rfl, _, _, _, _, _, rfl, hln, T.cl_Line, T.n_Line_size, rfl, rfl, _, rfl, ?_⟩
        refine ite2 (fun c2 => ?_) (fun c2 => ?_)
        · have c2' : n = L.size := by rw [dI] at c2; exact of_decide_eq_true c2
          refine ⟨_, rfl, _, _, _, _, _, rfl, h3.ins, T.cl_Flow, T.n_Flow_full, rfl, _, rfl, _, _, sN b, _, rfl, congrArg V.int (sI_nat b), SqL.of (h3.at_ .full), cgt rfl, _, _, rfl, rfl, _, _, _, _, rfl, rfl, h3.at_ .full, ixc rfl, rfl, ?_⟩
          have h4 := h3.pair (t := .full) (b := b) (x' := { f.s b with known := if ans > (f.s b).known then ans else (f.s b).known, come := (f.s b).come + n, full := (f.s b).full + 1 }) (v := .int ((f.s b).full + 1)) rfl rfl (fun u hu => by simp only [upS_same]; cases u <;> first | rfl | exact absurd rfl hu) (by simp only [upS_same])
          simp only [upS_upS] at h4
          rw [if_pos c2']
          simp only [upS_same, fv]
          exact h4
        · have c2' : ¬ n = L.size := by rw [dI] at c2; exact fun y => c2 (decide_eq_true y)
          refine ⟨rfl, ?_⟩
          rw [if_neg c2']
          exact h3
      · rintro σ' H' ⟨rfl, h5⟩
        refine ⟨_, rfl, _, _, _, _, _, rfl, h5.ins, T.cl_Flow, T.n_Flow_first, rfl, _, rfl, _, _, _, _, rfl, rfl, SqL.of (h5.at_ .first), cat2 rfl, rfl, _, rfl, ?_⟩
        by_cases hf : (f.s b).first = none
        · refine iteY (by simp [upS_same, fv, optV, hf]) ?_
          refine ⟨_, rfl, _, _, _, _, _, rfl, h5.ins, T.cl_Flow, T.n_Flow_tick, rfl, _, rfl, _, _, _, _, _, rfl, h5.ins, T.cl_Flow, T.n_Flow_first, rfl, _, rfl, _, _, _, _, rfl, rfl, h5.at_ .first, ixc rfl, ?_⟩
          have h6 := h5.pair (t := .first) (b := b) (x' := landSd L f.now (f.s b) n ans) (v := .int f.now) rfl (by unfold landSd; simp [fv, if_pos c1', hf, optV]) (fun u hu => by simp only [upS_same]; unfold landSd; cases u <;> first | rfl | exact absurd rfl hu | simp [fv, c1']) (by simp only [upS_same]; rfl)
          simp only [upS_upS] at h6
          exact k _ ⟨_, _, _, _, h6⟩
        · obtain ⟨u, hf⟩ := Option.ne_none_iff_exists'.mp hf
          refine iteN (by simp [upS_same, fv, optV, hf]) ?_
          refine k _ ?_
          have e : landSd L f.now (f.s b) n ans = { f.s b with known := if ans > (f.s b).known then ans else (f.s b).known, come := (f.s b).come + n, full := if n = L.size then (f.s b).full + 1 else (f.s b).full } := by
            unfold landSd
            simp [c1', hf]
          rw [e]
          exact h5.mk'
    · have c1' : ¬ 0 < n := fun y => c1 (decide_eq_true y)
      refine k _ ?_
      have e : landSd L f.now (f.s b) n ans = { f.s b with known := if ans > (f.s b).known then ans else (f.s b).known } := by
        unfold landSd
        simp [c1']
      rw [e]
      exact h2.mk'
abbrev sFlow_is_due : Stmt := inClass (topS 2) 10
theorem scFlow_is_due : FnScope ["self", "side", "setting"] ["self", "side"] (defScope sFlow_is_due) := ⟨rfl, rfl, rfl, by decide +kernel, rfl, by decide +kernel, by decide +kernel⟩
theorem okFlow_is_due {f : Addr} {fd : FuncData} (F : Fun K "is_due" "Flow.is_due" sFlow_is_due f fd) (T : Txt K mg C) :
    FnOk P w K mg base CX0 1 f fd ["self", "side"] (spFlow_is_due K C) := by
  refine F.ok scFlow_is_due (fun vs H Q E h => ?_) (fun cdv A outer s H vs Q E hr h => ?_)
  · obtain ⟨H0, p, z, L, f, b, rfl, _⟩ := h
    rfl
  · obtain ⟨H0, p, z, L, f, b, rfl, ⟨ad, r, fl, lg, h1⟩, k⟩ := h
    refine ⟨_, (pss_cons (ps_set (i := 2) scFlow_is_due.nd rfl (Or.inl rfl) (pe_ix ix_tup (pe_fld (pv 0) rfl) (pv 1) (fun _ _ => rfl)))
      (pss_cons (ps_if (pt_cmpR op_ge (pe_ix ix_list (pe_fld (pv 0) rfl) (pv 1) (fun _ _ => rfl)) (pe_fld (pv 2) rfl) (nomark _)) (pss_one (ps_ret pe_bl)) pss_nil)
      (pss_one (ps_ret (pe_and (pe_cmpR op_notN (pe_ix ix_list (pe_fld (pv 0) rfl) (pv 1) (fun _ _ => rfl)) pe_non (nomark _)) (pe_one (pe_cmpR op_ge (pe_fld (pv 0) rfl) (pe_op op_add (pe_ix ix_list (pe_fld (pv 0) rfl) (pv 1) (fun _ _ => rfl)) (pe_fld (pv 2) rfl)) (nomark _)))))))), ?_⟩
    obtain ⟨dx, t, hset⟩ := LnZ.set h1.lineH b
    refine ⟨_, rfl, _, _, _, _, _, rfl, h1.ins, T.cl_Flow, T.n_Flow_settings, rfl, _, rfl, _, _, _, _, rfl, rfl, SqT.of h1.stgH, setIx z b, ?_⟩
    refine ⟨_, rfl, _, _, _, _, _, rfl, h1.ins, T.cl_Flow, T.n_Flow_full, rfl, _, rfl, _, _, _, _, rfl, rfl, SqL.of (h1.at_ .full), cat2 rfl, _, rfl, _, _, _, _, _, rfl, hset, T.cl_Setting, T.n_Setting_every, rfl, _, _, rfl, rfl, _, rfl, ?_⟩
    unfold isDue at k
    refine ite2 (fun c1 => ?_) (fun c1 => ?_)
    · rw [show decide ((L.st b).every ≤ (f.s b).full) = true from c1, Bool.true_or] at k
      exact k
    · rw [show decide ((L.st b).every ≤ (f.s b).full) = false from by simpa using c1, Bool.false_or] at k
      refine ⟨_, rfl, _, _, _, _, _, rfl, h1.ins, T.cl_Flow, T.n_Flow_first, rfl, _, rfl, _, _, _, _, rfl, rfl, SqL.of (h1.at_ .first), cat2 rfl, rfl, _, rfl, ?_⟩
      by_cases hf0 : (f.s b).first = none
      · rw [hf0] at k
        refine iteN (by simp [fv, optV, hf0]) ?_
        exact k
      · obtain ⟨u, hf⟩ := Option.ne_none_iff_exists'.mp hf0
        rw [hf] at k
        refine iteY (by simp [fv, optV, hf]) ?_
        have hfu : fv (f.s b) .first = .int u := by unfold fv; rw [hf]; rfl
        refine ⟨_, rfl, _, _, _, _, _, rfl, h1.ins, T.cl_Flow, T.n_Flow_tick, rfl, _, rfl, _, _, _, _, _, rfl, h1.ins, T.cl_Flow, T.n_Flow_first, rfl, _, rfl, _, _, _, _, rfl, rfl, SqL.of (h1.at_ .first), cat2 rfl, _, rfl, _, _, _, _, _, rfl, hset, T.cl_Setting, T.n_Setting_delay, rfl, _, _, hfu, rfl, _, _, rfl, rfl, ?_⟩
        exact k
end
end Sh

namespace Sh
open PySem L2 PySem.Spec PyProof.Rows
def spFlow_begin (_ : PySem.W.Frag) (C : AD) : Sp := fun vs H Q _ => ∃ (H0 : Hp) (p : Addr) (z : FZ) (L : Ln) (f : Fl) (t M : Int), vs = [.ref p, .int t] ∧ FlowAt C H0 H p z L f ∧ LnOk L ∧ Ok M f ∧ M ≤ 1000000 ∧
  ∀ H', FlowAt C H0 H' p z L (begin_ L f t) → Q .non H'
def spFlow_leave (_ : PySem.W.Frag) (C : AD) : Sp := fun vs H Q _ => ∃ (H0 : Hp) (p : Addr) (z : FZ) (L : Ln) (f : Fl) (M : Int), vs = [.ref p] ∧ FlowAt C H0 H p z L f ∧ LnOk L ∧ Ok M f ∧ M ≤ 1000000 ∧
  ∀ H', FlowAt C H0 H' p z L (leave L f) → Q .non H'
/-- None, or the least of some numbers -/
def MinV (l : List Int) (v : V) : Prop := (l = [] ∧ v = .non) ∨ ∃ t, IsMin t l ∧ v = .int t
def spFlow_next_tick (_ : PySem.W.Frag) (C : AD) : Sp := fun vs H Q _ => ∃ (H0 : Hp) (p : Addr) (z : FZ) (L : Ln) (f : Fl) (M : Int), vs = [.ref p] ∧ FlowAt C H0 H p z L f ∧ Ok M f ∧ M ≤ 1000000 ∧
  ∀ H' v, Same H H' → MinV (ticksOf L f) v → Q v H'
def ggLe (t : Int) : V → List V → Option V := fun v row => match row with
  | V.int a :: _ => if a ≤ t then some v else none
  | _ => none
def ggGt (t : Int) : V → List V → Option V := fun v row => match row with
  | V.int a :: _ => if a > t then some v else none
  | _ => none
theorem pair01 {i : Nat} {x : V} (h : [V.int 0, V.int 1][i]? = some x) : (i = 0 ∧ x = .int (sI false)) ∨ (i = 1 ∧ x = .int (sI true)) := by
  match i, h with
  | 0, h => exact .inl ⟨rfl, (Option.some.inj h).symm⟩
  | 1, h => exact .inr ⟨rfl, (Option.some.inj h).symm⟩
  | i + 2, h => simp at h
def sides (g : Bool → Fl → Fl) (f : Fl) : Nat → Fl
  | 0 => f
  | 1 => g false f
  | _ => g true (g false f)
theorem foldl_take_succ {α β : Type} {g : β → α → β} {l : List α} {i : Nat} {x : α} (b : β) (h : l[i]? = some x) : (l.take (i + 1)).foldl g b = g ((l.take i).foldl g b) x := by
  rw [List.take_add_one, h]
  simp
section
variable {P : Program} {w : World} {K : PySem.W.Frag} {mg : Str → Option Value} {base : Heap} {C : AD}
abbrev sFlow_begin : Stmt := inClass (topS 2) 9
theorem scFlow_begin : FnScope ["self", "tick", "landing", "there", "sender", "amount", "answered", "side", "piece"] ["self", "tick"] (defScope sFlow_begin) := ⟨rfl, rfl, rfl, by decide +kernel, rfl, by decide +kernel, by decide +kernel⟩
theorem okFlow_begin {f : Addr} {fd : FuncData} (F : Fun K "begin" "Flow.begin" sFlow_begin f fd) (T : Txt K mg C)
    (MFlow_let_go : MOk P w K mg base C.Flow "let_go" 3 ["self", "side"] (spFlow_let_go K C))
    (MFlow_land : MOk P w K mg base C.Flow "land" 1 ["self", "sender", "amount", "answered"] (spFlow_land K C)) :
    FnOk P w K mg base CX0 4 f fd ["self", "tick"] (spFlow_begin K C) := by
  obtain ⟨_, _, GFlow_let_go, bFlow_let_go, mFlow_let_go⟩ := MFlow_let_go.ex
  obtain ⟨_, _, GFlow_land, bFlow_land, mFlow_land⟩ := MFlow_land.ex
  refine F.ok scFlow_begin (fun vs H Q E h => ?_) (fun cdv A outer s H vs Q E hr h => ?_)
  · obtain ⟨H0, p, z, L, f, t, M, rfl, _⟩ := h
    rfl
  · obtain ⟨H0, p, z, L, f, t, M, rfl, h0, hL, ok, hM, k⟩ := h
    refine ⟨_, (pss_cons (ps_fld (pv 0) (pv 1) rfl)
      (pss_cons (ps_setLc (i := 2) (own := [("piece", 8)]) rfl scFlow_begin.nd rfl rfl (sw_true rfl rfl rfl (by decide +kernel)) (pi_list (pe_fld (pv 0) rfl)) (blkOk_by (N := ["self", "tick", "landing", "there", "sender", "amount", "answered", "side", "piece"]) (sc := defScope sFlow_begin) (by decide +kernel)) (fun _ _ _ _ _ => by exact (pg_name (i := 8) scFlow_begin.nd rfl (Or.inl rfl))) (fun _ _ _ _ _ => by exact (pts_one (pt_cmpR op_le (pe_ix (ix_tupK (K := K) rfl) (pv 8) pe_int (fun _ _ => rfl)) (pv 1) (nomark _)))) (fun _ _ _ _ _ => by exact (pv 8)))
      (pss_cons (ps_fld (pv 0) (pe_lc (own := [("piece", 8)]) rfl scFlow_begin.nd (pi_list (pe_fld (pv 0) rfl)) (blkOk_by (N := ["self", "tick", "landing", "there", "sender", "amount", "answered", "side", "piece"]) (sc := defScope sFlow_begin) (by decide +kernel)) (fun _ _ _ _ _ => by exact (pg_name (i := 8) scFlow_begin.nd rfl (Or.inl rfl))) (fun _ _ _ _ _ => by exact (pts_one (pt_cmpR op_gt (pe_ix (ix_tupK (K := K) rfl) (pv 8) pe_int (fun _ _ => rfl)) (pv 1) (nomark _)))) (fun _ _ _ _ _ => by exact (pv 8))) rfl)
      (pss_cons (ps_for PassesOwn.never rfl (pi_list (pv 2)) (pg_tup rfl (pgs_cons (pg_name (i := 3) scFlow_begin.nd rfl (Or.inl rfl)) (pgs_cons (pg_name (i := 4) scFlow_begin.nd rfl (Or.inl rfl)) (pgs_cons (pg_name (i := 5) scFlow_begin.nd rfl (Or.inl rfl)) (pgs_cons (pg_name (i := 6) scFlow_begin.nd rfl (Or.inl rfl)) pgs_nil))))) (pss_one (ps_expr (pe_meth (pv 0) T.cl_Flow mFlow_land GFlow_land (hr.mono (by decide)) bFlow_land .nil pass0 (pa_cons (pv 4) (pa_cons (pv 5) (pa_cons (pv 6) pa_nil)))))))
      (pss_one (ps_for PassesOwn.never rfl (pi_tup (pe_tup (pa_cons pe_int (pa_cons pe_int pa_nil)))) (pg_name (i := 7) scFlow_begin.nd rfl (Or.inl rfl)) (pss_one (ps_expr (pe_meth (pv 0) T.cl_Flow mFlow_let_go GFlow_let_go (hr.mono (by decide)) bFlow_let_go .nil pass0 (pa_cons (pv 7) pa_nil)))))))))), ?_⟩
    obtain ⟨ad, r, fl, lg, h1⟩ := h0.upT
    have sB : Same H0 (withT H0 H) := withT_same
    have lz := h0.lnz
    -- self.tick = tick
    refine ⟨_, rfl, _, rfl, _, _, _, _, rfl, h1.ins, T.cl_Flow, T.n_Flow_tick, by show 14 < 1000; decide, ?_⟩
    have h2 := h1.clock (t := t)
    have lfl : fl.length ≤ 1000000 := by
      have e := h2.fls.length
      rw [List.length_map] at e
      have := ok.airLen
      rw [e]; show f.air.length ≤ _; omega
    have tB : Tups (withT H0 H) fl (f.air.map rowP) := by
      obtain ⟨ad', r', fl', lg', h0'⟩ := id h0
      have e1 := h1.ins
      have e2 := h0'.ins
      rw [e1] at e2
      have e3 : ad .flight = ad' .flight := by
        have := congrArg (fun o : Option HO => match o with | some (.ins _ _ fs) => fs.lookup ("flight" : Str) | _ => none) e2
        exact V.ref.inj (Option.some.inj this)
      have e4 := h1.at_ .flight
      have e5 := h0'.at_ .flight
      rw [e3, e5] at e4
      have e6 : fl' = fl := HO.lst.inj (Option.some.inj e4)
      rw [← e6]
      exact h0'.fls.withT h0'.same
    generalize hH2 : L2.upd H p (.ins C.Flow z.dx (fFlow z.ln z.stg t ad)) = H2 at h2
    have hH2' : L2.upd H p (.ins C.Flow z.dx (putF "tick" (.int t) (fFlow z.ln z.stg f.now ad))) = H2 := hH2
    rw [hH2']
    -- landing = [..]
    refine ⟨_, rfl, _, _, _, _, _, rfl, h2.ins, T.cl_Flow, T.n_Flow_flight, rfl, _, rfl, ⟨_, SqL.of (h2.at_ .flight)⟩, fun D hD => ?_⟩
    refine lc_rows (K := K) (ggLe t) hD (SqL.of (h2.at_ .flight)) h2.fls lfl (fun y row H' Yes No hv hr e ht hy hn => ?_) (fun H3 e3 hD3 => ?_)
    · obtain ⟨x, hx, rfl⟩ := List.mem_map.mp hr
      refine ⟨rfl, _, rfl, y, _, _, _, rfl, rfl, SqT.of ht, at0 _ _, _, rfl, _, _, rfl, rfl, _, rfl, ?_⟩
      refine ite2 (fun c => ?_) (fun c => ?_)
      · exact ⟨_, rfl, hy _ _ (Same.refl _) (if_pos (of_decide_eq_true c))⟩
      · exact hn _ (Same.refl _) (if_neg fun q => c (decide_eq_true q))
    have hpk : ∀ (v : V) (x : Pc), ggLe t v (rowP x) = if decide (x.at_ ≤ t) = true then some v else none := fun v x => by simp [ggLe, rowP]
    have hpk2 : ∀ (v : V) (x : Pc), ggGt t v (rowP x) = if decide (x.at_ > t) = true then some v else none := fun v x => by simp [ggGt, rowP]
    have b3 : FlowAt C (L2.upd (withT H0 H) D (.lst (pick (ggLe t) fl (f.air.map rowP)))) H3 p z L { f with now := t } := h2.mk'.newE hD e3 hD3
    have s3 : Same (withT H0 H) (L2.upd (withT H0 H) D (.lst (pick (ggLe t) fl (f.air.map rowP)))) := same_upd (h2.same.free hD)
    have tL : Tups (L2.upd (withT H0 H) D (.lst (pick (ggLe t) fl (f.air.map rowP)))) (pick (ggLe t) fl (f.air.map rowP)) ((f.air.filter fun p => decide (p.at_ ≤ t)).map rowP) := (pick_filter hpk tB).keep' fun a xs h => s3 _ _ h
    generalize hB : L2.upd (withT H0 H) D (.lst (pick (ggLe t) fl (f.air.map rowP))) = B at b3 s3 tL
    have hBD : B D = some (.lst (pick (ggLe t) fl (f.air.map rowP))) := by rw [← hB]; exact upd_same
    generalize hlv : pick (ggLe t) fl (f.air.map rowP) = lv at tL hBD
    obtain ⟨ad3, r3, fl3, lg3, h3⟩ := b3
    -- self.flight = [..]
    refine ⟨_, rfl, _, _, _, _, _, rfl, h3.ins, T.cl_Flow, T.n_Flow_flight, rfl, _, rfl, ⟨_, SqL.of (h3.at_ .flight)⟩, fun D2 hD2 => ?_⟩
    have lfl3 : fl3.length ≤ 1000000 := by
      have e := h3.fls.length
      rw [List.length_map] at e
      have := ok.airLen
      rw [e]; show f.air.length ≤ _; omega
    refine lc_rows (K := K) (ggGt t) hD2 (SqL.of (h3.at_ .flight)) h3.fls lfl3 (fun y row H' Yes No hv hr e ht hy hn => ?_) (fun H4 e4 hD4 => ?_)
    · obtain ⟨x, hx, rfl⟩ := List.mem_map.mp hr
      refine ⟨rfl, _, rfl, y, _, _, _, rfl, rfl, SqT.of ht, at0 _ _, _, rfl, _, _, rfl, rfl, _, rfl, ?_⟩
      refine ite2 (fun c => ?_) (fun c => ?_)
      · exact ⟨_, rfl, hy _ _ (Same.refl _) (if_pos (of_decide_eq_true c))⟩
      · exact hn _ (Same.refl _) (if_neg fun q => c (decide_eq_true q))
    have h4 := h3.ext e4
    refine ⟨_, rfl, _, _, _, _, rfl, h4.ins, T.cl_Flow, T.n_Flow_flight, by show 14 < 1000; decide, ?_⟩
    have h5 := h4.newAir (D := D2) (fl' := pick (ggGt t) fl3 (f.air.map rowP)) (air' := f.air.filter fun p => decide (p.at_ > t)) hD4 (h3.same.free hD2) (fun u => ne_of_none (h3.at_ u) hD2) (pick_filter hpk2 h4.fls)
    have b5 := h5.mk'
    generalize hH5 : L2.upd H4 p (.ins C.Flow z.dx (fFlow z.ln z.stg t (fun u => if u = .flight then D2 else ad3 u))) = H5 at b5
    have hH5' : L2.upd H4 p (.ins C.Flow z.dx (putF "flight" (.ref D2) (fFlow z.ln z.stg t ad3))) = H5 := hH5
    have b5' : FlowAt C B H5 p z L { f with now := t, air := f.air.filter fun p => decide (p.at_ > t) } := by rw [← hH5]; exact h5.mk'
    show tSeq _ _ _ _ (L2.upd H4 p (.ins C.Flow z.dx (putF "flight" (.ref D2) (fFlow z.ln z.stg t ad3))))
    rw [hH5']
    -- for there, sender, amount, answered in landing
    refine ⟨_, rfl, D, rfl, ⟨_, SqL.of (b5'.sameB _ _ hBD)⟩, ?_⟩
    refine for_list (K := K) (a := D) (xs := lv) (fun i σ H' => ∃ v3 v4 v5 v6 v7 v8, σ = [some (.ref p), some (.int t), some (.ref D), v3, v4, v5, v6, v7, v8] ∧
      FlowAt C B H' p z L (((f.air.filter fun p => decide (p.at_ ≤ t)).take i).foldl (land L) { f with now := t, air := f.air.filter fun p => decide (p.at_ > t) }))
      ⟨_, _, _, _, _, _, rfl, b5'⟩ (fun i σ H' _ h => ?_) ?_ ?_
    · obtain ⟨_, _, _, _, _, _, _, h⟩ := h
      exact SqL.of (h.sameB _ _ hBD)
    · rintro i x σ H' hi ⟨v3, v4, v5, v6, v7, v8, rfl, hf⟩
      obtain ⟨y, row, hr, rfl, hy⟩ := tL.get hi
      rw [List.getElem?_map] at hr
      obtain ⟨pc, hpc, rfl⟩ : ∃ pc, (f.air.filter fun p => decide (p.at_ ≤ t))[i]? = some pc ∧ rowP pc = row := by
        cases e : (f.air.filter fun p => decide (p.at_ ≤ t))[i]? with
        | none => rw [e] at hr; cases hr
        | some pc => rw [e] at hr; exact ⟨pc, rfl, Option.some.inj hr⟩
      have hf' := hf
      obtain ⟨ad6, r6, fl6, lg6, h6⟩ := hf'
      refine ⟨y, _, rfl, SqT.of (hf.sameB _ _ hy), rfl, ?_⟩
      refine ⟨_, _, rfl, _, _, rfl, _, _, rfl, _, _, rfl, rfl, ?_⟩
      refine ⟨_, rfl, _, _, _, rfl, h6.ins, (by rfl), _, rfl, _, rfl, _, rfl, B, p, z, L, _, pc, rfl, hf, fun H7 h7 => ?_⟩
      refine ⟨_, _, _, _, _, _, rfl, ?_⟩
      rw [foldl_take_succ _ hpc]
      exact h7
    · rintro σ H' ⟨v3, v4, v5, v6, v7, v8, rfl, hf⟩
      have hlen : lv.length = (f.air.filter fun p => decide (p.at_ ≤ t)).length := by rw [tL.length, List.length_map]
      rw [hlen, List.take_of_length_le (Nat.le_refl _)] at hf
      have ha : (f.air.filter fun p => decide (p.at_ ≤ t)).foldl (land L) { f with now := t, air := f.air.filter fun p => decide (p.at_ > t) } = arrive L f t := by unfold arrive; rfl
      rw [ha] at hf
      have oka : Ok M (arrive L f t) := arrive_ok ok t
      -- for side in (0, 1)
      refine ⟨by show 2 ≤ sizeLine; decide, fun y hy => ⟨y, rfl, ⟨_, SqT.of upd_same⟩, ?_⟩⟩
      have hfy := hf.new (o := .tup [.int 0, .int 1]) hy
      refine for_tup (K := K) (a := y) (xs := [.int 0, .int 1]) (fun i σ H' => ∃ v7, σ = [some (.ref p), some (.int t), some (.ref D), v3, v4, v5, v6, v7, v8] ∧ FlowAt C (L2.upd B y (.tup [.int 0, .int 1])) H' p z L (sides (letGo L) (arrive L f t) i))
        ⟨_, rfl, hfy⟩ (fun i σ H' _ h => ?_) ?_ ?_
      · obtain ⟨_, _, h⟩ := h
        exact SqT.of (h.sameB _ _ upd_same)
      · rintro i x σ H' hi ⟨v7, rfl, hg⟩
        have hg' := hg
        obtain ⟨ad7, r7, fl7, lg7, h7⟩ := hg'
        rcases pair01 hi with ⟨rfl, rfl⟩ | ⟨rfl, rfl⟩
        · refine ⟨_, rfl, _, _, _, rfl, h7.ins, (by rfl), _, rfl, _, p, z, L, _, false, M, rfl, hg, hL, oka, hM, fun H8 h8 => ⟨_, rfl, h8⟩⟩
        · refine ⟨_, rfl, _, _, _, rfl, h7.ins, (by rfl), _, rfl, _, p, z, L, _, true, M, rfl, hg, hL, letGo_ok hL oka, hM, fun H8 h8 => ⟨_, rfl, h8⟩⟩
      · rintro σ H' ⟨v7, rfl, hg⟩
        have sy : Same (withT H0 H) (L2.upd B y (.tup [.int 0, .int 1])) := s3.trans (same_upd (hf.sameB.free hy))
        exact k _ (hg.down (sB.trans sy) lz)
end
end Sh

namespace Sh
open PySem L2 PySem.Spec PyProof.Rows
theorem fv_first {f : Fl} {b : Bool} {u : Int} (h : (f.s b).first = some u) : fv (f.s b) .first = .int u := by unfold fv; rw [h]; rfl
section
variable {P : Program} {w : World} {K : PySem.W.Frag} {mg : Str → Option Value} {base : Heap} {C : AD}
abbrev sFlow_leave : Stmt := inClass (topS 2) 11
theorem scFlow_leave : FnScope ["self", "side"] ["self"] (defScope sFlow_leave) := ⟨rfl, rfl, rfl, by decide +kernel, rfl, by decide +kernel, by decide +kernel⟩
theorem okFlow_leave {f : Addr} {fd : FuncData} (F : Fun K "leave" "Flow.leave" sFlow_leave f fd) (T : Txt K mg C)
    (MFlow_is_due : MOk P w K mg base C.Flow "is_due" 1 ["self", "side"] (spFlow_is_due K C))
    (MFlow_send : MOk P w K mg base C.Flow "send" 2 ["self", "side", "amount"] (spFlow_send K C)) :
    FnOk P w K mg base CX0 3 f fd ["self"] (spFlow_leave K C) := by
  obtain ⟨_, _, GFlow_is_due, bFlow_is_due, mFlow_is_due⟩ := MFlow_is_due.ex
  obtain ⟨_, _, GFlow_send, bFlow_send, mFlow_send⟩ := MFlow_send.ex
  refine F.ok scFlow_leave (fun vs H Q E h => ?_) (fun cdv A outer s H vs Q E hr h => ?_)
  · obtain ⟨H0, p, z, L, f, M, rfl, _⟩ := h
    rfl
  · obtain ⟨H0, p, z, L, f, M, rfl, h0, hL, ok, hM, k⟩ := h
    refine ⟨_, (pss_one (ps_for PassesOwn.never rfl (pi_tup (pe_tup (pa_cons pe_int (pa_cons pe_int pa_nil)))) (pg_name (i := 1) scFlow_leave.nd rfl (Or.inl rfl)) (pss_one (ps_if (pt_val (pe_meth (pv 0) T.cl_Flow mFlow_is_due GFlow_is_due (hr.mono (by decide)) bFlow_is_due .nil pass0 (pa_cons (pv 1) pa_nil))) (pss_one (ps_expr (pe_meth (pv 0) T.cl_Flow mFlow_send GFlow_send (hr.mono (by decide)) bFlow_send .nil pass0 (pa_cons (pv 1) (pa_cons pe_int pa_nil))))) pss_nil)))), ?_⟩
    have lz := h0.lnz
    refine ⟨by show 2 ≤ sizeLine; decide, fun y hy => ⟨y, rfl, ⟨_, SqT.of upd_same⟩, ?_⟩⟩
    have hfy := h0.new (o := .tup [.int 0, .int 1]) hy
    refine for_tup (K := K) (a := y) (xs := [.int 0, .int 1]) (fun i σ H' => ∃ v1, σ = [some (.ref p), v1] ∧ FlowAt C (L2.upd H0 y (.tup [.int 0, .int 1])) H' p z L (sides (fun b g => leave1 L g b) f i))
      ⟨_, rfl, hfy⟩ (fun i σ H' _ h => ?_) ?_ ?_
    · obtain ⟨_, _, h⟩ := h
      exact SqT.of (h.sameB _ _ upd_same)
    · rintro i x σ H' hi ⟨v1, rfl, hg⟩
      obtain ⟨ad7, r7, fl7, lg7, h7⟩ := id hg
      rcases pair01 hi with ⟨rfl, rfl⟩ | ⟨rfl, rfl⟩
      · refine ⟨_, rfl, _, _, _, rfl, h7.ins, (by rfl), _, rfl, _, p, z, L, _, false, rfl, hg, _, rfl, ?_⟩
        refine ite2 (fun c => ?_) (fun c => ?_)
        · refine ⟨_, rfl, _, _, _, rfl, h7.ins, (by rfl), _, rfl, _, p, z, L, _, false, 0, M, rfl, hg, ok, hM, ok.kept0 false, fun H8 h8 => ⟨_, rfl, ?_⟩⟩
          show FlowAt C _ H8 p z L (leave1 L f false)
          rw [leave1, if_pos (show isDue L f false = true from c)]
          exact h8
        · refine ⟨_, rfl, ?_⟩
          show FlowAt C _ H' p z L (leave1 L f false)
          rw [leave1, if_neg (show ¬ isDue L f false = true from c)]
          exact hg
      · have ok1 : Ok M (leave1 L f false) := leave1_ok hL ok
        refine ⟨_, rfl, _, _, _, rfl, h7.ins, (by rfl), _, rfl, _, p, z, L, _, true, rfl, hg, _, rfl, ?_⟩
        refine ite2 (fun c => ?_) (fun c => ?_)
        · refine ⟨_, rfl, _, _, _, rfl, h7.ins, (by rfl), _, rfl, _, p, z, L, _, true, 0, M, rfl, hg, ok1, hM, ok1.kept0 true, fun H8 h8 => ⟨_, rfl, ?_⟩⟩
          show FlowAt C _ H8 p z L (leave1 L (leave1 L f false) true)
          rw [leave1, if_pos (show isDue L (leave1 L f false) true = true from c)]
          exact h8
        · refine ⟨_, rfl, ?_⟩
          show FlowAt C _ H' p z L (leave1 L (leave1 L f false) true)
          rw [leave1, if_neg (show ¬ isDue L (leave1 L f false) true = true from c)]
          exact hg
    · rintro σ H' ⟨v1, rfl, hg⟩
      exact k _ (hg.down (same_upd (h0.sameB.free hy)) lz)
def duesN (L : Ln) (f : Fl) : Nat → List Int
  | 0 => []
  | 1 => dues L f false
  | _ => dues L f false ++ dues L f true
abbrev sFlow_next_tick : Stmt := inClass (topS 2) 12
theorem scFlow_next_tick : FnScope ["self", "ticks", "side", "piece"] ["self"] (defScope sFlow_next_tick) := ⟨rfl, rfl, rfl, by decide +kernel, rfl, by decide +kernel, by decide +kernel⟩
theorem okFlow_next_tick {f : Addr} {fd : FuncData} (F : Fun K "next_tick" "Flow.next_tick" sFlow_next_tick f fd) (T : Txt K mg C) :
    FnOk P w K mg base CX0 1 f fd ["self"] (spFlow_next_tick K C) := by
  refine F.ok scFlow_next_tick (fun vs H Q E h => ?_) (fun cdv A outer s H vs Q E hr h => ?_)
  · obtain ⟨H0, p, z, L, f, M, rfl, _⟩ := h
    rfl
  · obtain ⟨H0, p, z, L, f, M, rfl, ⟨ad, r, fl, lg, h1⟩, ok, hM, k⟩ := h
    refine ⟨_, (pss_cons (ps_setLc (i := 1) (own := [("piece", 3)]) rfl scFlow_next_tick.nd rfl rfl (sw_true rfl rfl rfl (by decide +kernel)) (pi_list (pe_fld (pv 0) rfl)) (blkOk_by (N := ["self", "ticks", "side", "piece"]) (sc := defScope sFlow_next_tick) (by decide +kernel)) (fun _ _ _ _ _ => by exact (pg_name (i := 3) scFlow_next_tick.nd rfl (Or.inl rfl))) (fun _ _ _ _ _ => by exact pts_nil) (fun _ _ _ _ _ => by exact (pe_ix (ix_tupK (K := K) rfl) (pv 3) pe_int (fun _ _ => rfl))))
      (pss_cons (ps_for PassesOwn.never rfl (pi_tup (pe_tup (pa_cons pe_int (pa_cons pe_int pa_nil)))) (pg_name (i := 2) scFlow_next_tick.nd rfl (Or.inl rfl)) (pss_one (ps_if (pt_cmpR op_notN (pe_ix ix_list (pe_fld (pv 0) rfl) (pv 2) (fun _ _ => rfl)) pe_non (nomark _)) (pss_one (ps_expr (pe_bm PySem.F.plainAttrs_list PySem.F.slot_list_append PySem.F.type_list_append mt_append (pv 1) (pa_cons (pe_op op_add (pe_ix ix_list (pe_fld (pv 0) rfl) (pv 2) (fun _ _ => rfl)) (pe_fld (pe_ix ix_tup (pe_fld (pv 0) rfl) (pv 2) (fun _ _ => rfl)) rfl)) pa_nil)))) pss_nil)))
      (pss_one (ps_ret (pe_ifExp (pt_cmpR op_gt (pe_callB call_len_seq (by rfl) T.z_len (by decide +kernel) (pa_cons (pv 1) pa_nil)) pe_int (nomark _)) (pe_callB (cr_min rfl) (by rfl) T.z_min (by decide +kernel) (pa_cons (pv 1) pa_nil)) pe_non))))), ?_⟩
    have lfl : fl.length = f.air.length := by
      have e := h1.fls.length
      rw [List.length_map] at e
      exact e
    have lM := ok.airLen
    -- ticks = [..]
    refine ⟨_, rfl, _, _, _, _, _, rfl, h1.ins, T.cl_Flow, T.n_Flow_flight, rfl, _, rfl, ⟨_, SqL.of (h1.at_ .flight)⟩, fun D hD => ?_⟩
    refine lc_rows (K := K) (fun _ row => row[0]?) hD (SqL.of (h1.at_ .flight)) h1.fls (by show fl.length ≤ _; omega) (fun y row H' Yes No hv hr e ht hy hn => ?_) (fun H2 e2 hD2 => ?_)
    · obtain ⟨x, hx, rfl⟩ := List.mem_map.mp hr
      refine ⟨rfl, yes_ite ?_⟩
      exact ⟨_, rfl, y, _, _, _, rfl, rfl, SqT.of ht, at0 _ _, hy _ _ (Same.refl _) rfl⟩
    replace hD2 : H2 D = some (.lst (pick (fun _ row => row[0]?) fl (f.air.map rowP))) := hD2
    rw [pick_map (row := rowP) (k := fun q : Pc => V.int q.at_) (fun _ _ => rfl) (show fl.length = f.air.length from lfl)] at hD2
    -- for side in (0, 1)
    refine ⟨by show 2 ≤ sizeLine; decide, fun y hy => ⟨y, rfl, ⟨_, SqT.of upd_same⟩, ?_⟩⟩
    have h2 := h1.ext e2
    have nDy : D ≠ y := ne_of_none hD2 hy
    refine for_tup (K := K) (a := y) (xs := [.int 0, .int 1]) (fun i σ H' => ∃ v2, σ = [some (.ref p), some (.ref D), v2, none] ∧ Same H H' ∧ H' y = some (.tup [.int 0, .int 1]) ∧ H' D = some (.lst ((f.air.map (fun q : Pc => q.at_) ++ duesN L f i).map V.int)))
      ⟨_, rfl, e2.trans (same_upd hy), upd_same, ?_⟩ (fun i σ H' _ h => ?_) ?_ ?_
    · rw [upd_ne nDy, hD2]
      show _ = some (HO.lst ((f.air.map (fun q : Pc => q.at_) ++ []).map V.int))
      rw [List.append_nil, List.map_map]
      rfl
    · obtain ⟨_, _, _, h, _⟩ := h
      exact SqT.of h
    · rintro i x σ H' hi ⟨v2, rfl, eH, hyH, hDH⟩
      have h3 := h1.ext eH
      have ldu : (f.air.map (fun q : Pc => q.at_) ++ duesN L f i).length < sizeLine := by
        refine big_line ?_
        rw [List.length_append, List.length_map]
        have d1 : ∀ b, (dues L f b).length ≤ 1 := fun b => by unfold dues; split <;> simp
        have d2 := d1 false
        have d3 := d1 true
        have h4 := ok.kept0 false
        have h5 := ok.lid
        have h6 := phA_len f.air
        have h7 := phS_nonneg (ok.pos false)
        have h8 := phS_nonneg (ok.pos true)
        have d4 : (duesN L f i).length ≤ 2 := by
          match i with
          | 0 => simp [duesN]
          | 1 => simp only [duesN]; omega
          | i + 2 => simp only [duesN, List.length_append]; omega
        have h9 : (if (f.s false).first = none then (0 : Int) else 2) ≤ phS (f.s false) := by
          unfold phS; rw [kept_eq]; have := amt_nonneg (ok.pos false); omega
        have h10 : (if (f.s true).first = none then (0 : Int) else 2) ≤ phS (f.s true) := by
          unfold phS; rw [kept_eq]; have := amt_nonneg (ok.pos true); omega
        have d5 : ((duesN L f i).length : Int) ≤ (if (f.s false).first = none then (0 : Int) else 2) + (if (f.s true).first = none then (0 : Int) else 2) := by
          have e1 : ∀ b, ((dues L f b).length : Int) ≤ (if (f.s b).first = none then (0 : Int) else 2) := fun b => by
            unfold dues
            cases (f.s b).first <;> simp
          have e2 := e1 false
          have e3 := e1 true
          match i with
          | 0 => simp only [duesN, List.length_nil]; split <;> split <;> omega
          | 1 => simp only [duesN]; split at e3 <;> omega
          | i + 2 => simp only [duesN, List.length_append]; omega
        unfold phi at h5
        omega
      rcases pair01 hi with ⟨rfl, rfl⟩ | ⟨rfl, rfl⟩
      · refine ⟨_, rfl, _, _, _, _, _, rfl, h3.ins, T.cl_Flow, T.n_Flow_first, rfl, _, rfl, _, _, _, _, rfl, rfl, SqL.of (h3.at_ .first), cat2 rfl, rfl, _, rfl, ?_⟩
        by_cases hf0 : (f.s false).first = none
        · refine iteN (by simp [fv, optV, hf0]) ?_
          refine ⟨_, rfl, eH, hyH, ?_⟩
          have e : duesN L f (0 + 1) = [] := by show dues L f false = []; unfold dues; rw [hf0]
          rw [e]; exact hDH
        · obtain ⟨u, hf⟩ := Option.ne_none_iff_exists'.mp hf0
          refine iteY (by simp [fv, optV, hf]) ?_
          obtain ⟨dx, t, hset⟩ := LnZ.set h3.lineH false
          refine ⟨_, rfl, .inl ⟨rfl, _, SqL.of hDH⟩, _, rfl, _, _, _, _, _, rfl, h3.ins, T.cl_Flow, T.n_Flow_first, rfl, _, rfl, _, _, _, _, rfl, rfl, SqL.of (h3.at_ .first), cat2 rfl, _, rfl, _, _, _, _, _, rfl, h3.ins, T.cl_Flow, T.n_Flow_settings, rfl, _, rfl, _, _, _, _, rfl, rfl, SqT.of h3.stgH, setIx z false, _, _, _, _, _, rfl, hset, T.cl_Setting, T.n_Setting_delay, rfl, _, _, fv_first hf, rfl, D, _, _, rfl, rfl, hDH, by rw [List.length_map]; exact ldu, ?_⟩
          refine ⟨_, rfl, Same.upd0 eH hD, ?_, ?_⟩
          · rw [upd_ne nDy.symm]; exact hyH
          · rw [upd_same]
            have e : duesN L f (0 + 1) = [u + (L.st false).delay] := by show dues L f false = _; unfold dues; rw [hf]
            rw [e]
            simp [duesN]
      · refine ⟨_, rfl, _, _, _, _, _, rfl, h3.ins, T.cl_Flow, T.n_Flow_first, rfl, _, rfl, _, _, _, _, rfl, rfl, SqL.of (h3.at_ .first), cat2 rfl, rfl, _, rfl, ?_⟩
        by_cases hf0 : (f.s true).first = none
        · refine iteN (by simp [fv, optV, hf0]) ?_
          refine ⟨_, rfl, eH, hyH, ?_⟩
          have e : duesN L f (1 + 1) = duesN L f 1 := by show dues L f false ++ dues L f true = dues L f false; unfold dues; rw [hf0]; simp
          rw [e]; exact hDH
        · obtain ⟨u, hf⟩ := Option.ne_none_iff_exists'.mp hf0
          refine iteY (by simp [fv, optV, hf]) ?_
          obtain ⟨dx, t, hset⟩ := LnZ.set h3.lineH true
          refine ⟨_, rfl, .inl ⟨rfl, _, SqL.of hDH⟩, _, rfl, _, _, _, _, _, rfl, h3.ins, T.cl_Flow, T.n_Flow_first, rfl, _, rfl, _, _, _, _, rfl, rfl, SqL.of (h3.at_ .first), cat2 rfl, _, rfl, _, _, _, _, _, rfl, h3.ins, T.cl_Flow, T.n_Flow_settings, rfl, _, rfl, _, _, _, _, rfl, rfl, SqT.of h3.stgH, setIx z true, _, _, _, _, _, rfl, hset, T.cl_Setting, T.n_Setting_delay, rfl, _, _, fv_first hf, rfl, D, _, _, rfl, rfl, hDH, by rw [List.length_map]; exact ldu, ?_⟩
          refine ⟨_, rfl, Same.upd0 eH hD, ?_, ?_⟩
          · rw [upd_ne nDy.symm]; exact hyH
          · rw [upd_same]
            have e : duesN L f (1 + 1) = duesN L f 1 ++ [u + (L.st true).delay] := by show dues L f false ++ dues L f true = dues L f false ++ _; congr 1; unfold dues; rw [hf]
            rw [e]
            simp
    · rintro σ H' ⟨v2, rfl, eH, hyH, hDH⟩
      have et : f.air.map (fun q : Pc => q.at_) ++ duesN L f 2 = ticksOf L f := by unfold ticksOf; rw [List.append_assoc]; rfl
      have hDH' : H' D = some (.lst ((ticksOf L f).map V.int)) := by rw [← et]; exact hDH
      -- return min(ticks) if len(ticks) > 0 else None
      refine ⟨_, rfl, D, _, rfl, .inl (SqL.of hDH'), _, _, rfl, rfl, _, rfl, ?_⟩
      refine ite2 (fun c => ?_) (fun c => ?_)
      · have c' : 0 < (ticksOf L f).length := by
          have := of_decide_eq_true c
          rw [List.length_map] at this
          omega
        refine ⟨_, rfl, D, ticksOf L f, rfl, SqL.of hDH', c', fun m hm hle => ?_⟩
        exact k _ _ eH (.inr ⟨m, ⟨hm, hle⟩, rfl⟩)
      · have c' : ticksOf L f = [] := by
          cases hn : ticksOf L f with
          | nil => rfl
          | cons a l =>
            rw [hn] at c
            exact absurd (decide_eq_true (by simp)) c
        exact k _ _ eH (.inl ⟨c', rfl⟩)
end
end Sh

namespace Sh
open PySem L2 PySem.Spec PyProof.Rows
/-! ### courses -/
structure CoZ where
  dx : Addr
  st : Addr
  bg : Addr
def rowO : Op → List V
  | .write n => [.str "write", .int n]
  | .read n => [.str "read", .int n]
  | .pause n => [.str "pause", .int n]
def fCo (st bg : Addr) (place : Int) (til ended : V) : List (Str × V) := [("steps", .ref st), ("again", .bl false), ("place", .int place), ("until", til), ("ended", ended), ("begun", .ref bg)]
def coO (C : AD) (y : CoZ) (c : Co) : HO := .ins C.Course y.dx (fCo y.st y.bg c.place (optV c.til) (optV c.ended))
def StepsAt (B : Hp) (y : CoZ) (steps : List Op) : Prop := ∃ vs, B y.st = some (.lst vs) ∧ Tups B vs (steps.map rowO)
structure CF (C : AD) (B H : Hp) (p : Addr) (z : FZ) (L : Ln) (q : Addr) (y : CoZ) (c : Co) (f : Fl) : Prop where
  fl : FlowAt C (upd B q (coO C y c)) H p z L f
  q0 : B q = none
  ln : LnZ C B z L
  st : StepsAt B y c.steps
theorem CF.at_ {C : AD} {B H : Hp} {p q : Addr} {z : FZ} {L : Ln} {y : CoZ} {c : Co} {f : Fl} (h : CF C B H p z L q y c f) : H q = some (.ins C.Course y.dx (fCo y.st y.bg c.place (optV c.til) (optV c.ended))) := h.fl.sameB _ _ upd_same
theorem CF.sub {C : AD} {B H : Hp} {p q : Addr} {z : FZ} {L : Ln} {y : CoZ} {c : Co} {f : Fl} (h : CF C B H p z L q y c f) : Same B H := (same_upd h.q0).trans h.fl.sameB
theorem ended_some {c : Co} (h : c.place = c.steps.length) : c.ended = some c.prev := by unfold Co.ended; rw [if_pos h]
theorem ended_none {c : Co} (h : c.place ≠ c.steps.length) : c.ended = none := by unfold Co.ended; rw [if_neg h]
def spCourse_pass_step (_ : PySem.W.Frag) (C : AD) : Sp := fun vs H Q _ => ∃ (B : Hp) (p : Addr) (z : FZ) (L : Ln) (q : Addr) (y : CoZ) (c : Co) (f : Fl), vs = [.ref q, .ref p] ∧ CF C B H p z L q y c f ∧ c.til = none ∧ c.place < c.steps.length ∧ c.steps.length ≤ 1000 ∧
  ∀ H', CF C B H' p z L q y (c.pass f.now) f → Q .non H'
def spCourse_rests (_ : PySem.W.Frag) (C : AD) : Sp := fun vs H Q _ => ∃ (B : Hp) (p : Addr) (z : FZ) (L : Ln) (q : Addr) (y : CoZ) (c : Co) (f : Fl) (n : Int), vs = [.ref q, .ref p, .int n] ∧ CF C B H p z L q y c f ∧ c.ended = none ∧
  (f.now < c.til.getD (f.now + n) → ∀ H', CF C B H' p z L q y { c with til := some (c.til.getD (f.now + n)) } f → Q (.bl true) H') ∧
  (¬ f.now < c.til.getD (f.now + n) → ∀ H', CF C B H' p z L q y { c with til := none } f → Q (.bl false) H')
def spCourse_do_step (_ : PySem.W.Frag) (C : AD) : Sp := fun vs H Q _ => ∃ (B : Hp) (p : Addr) (z : FZ) (L : Ln) (q : Addr) (y : CoZ) (c : Co) (f : Fl) (b : Bool) (M : Int), vs = [.ref q, .ref p, .int (sI b)] ∧ CF C B H p z L q y c f ∧ LnOk L ∧ CoOk c ∧
  Ok (M - rem c) f ∧ M ≤ 1000000 ∧ c.place < c.steps.length ∧ c.steps.length ≤ 1000 ∧
  ∀ H', CF C B H' p z L q y (doStep L b f c).2.1 (doStep L b f c).1 → Q (.bl (doStep L b f c).2.2) H'
def spCourse_go_on (_ : PySem.W.Frag) (C : AD) : Sp := fun vs H Q _ => ∃ (B : Hp) (p : Addr) (z : FZ) (L : Ln) (q : Addr) (y : CoZ) (c : Co) (f : Fl) (b : Bool) (M : Int), vs = [.ref q, .ref p, .int (sI b)] ∧ CF C B H p z L q y c f ∧ LnOk L ∧ CoOk c ∧
  Ok (M - rem c) f ∧ M ≤ 1000000 ∧ c.steps.length ≤ 1000 ∧
  ∀ H', CF C B H' p z L q y (goAll L b f c).2 (goAll L b f c).1 → Q .non H'
section
variable {P : Program} {w : World} {K : PySem.W.Frag} {mg : Str → Option Value} {base : Heap} {C : AD}
/-- a course's object is changed -/
theorem CF.chg {B H : Hp} {p q : Addr} {z : FZ} {L : Ln} {y : CoZ} {c c' : Co} {f : Fl} (h : CF C B H p z L q y c f) (e : c'.steps = c.steps) {fs : List (Str × V)} (hf : coO C y c' = .ins C.Course y.dx fs) : CF C B (L2.upd H q (.ins C.Course y.dx fs)) p z L q y c' f := by
  refine ⟨?_, h.q0, h.ln, by rw [e]; exact h.st⟩
  rw [hf]
  exact FlowAt.chg (fs := fCo y.st y.bg c.place (optV c.til) (optV c.ended)) h.fl h.q0 h.ln
abbrev sCourse_pass_step : Stmt := inClass (topS 3) 1
theorem scCourse_pass_step : FnScope ["self", "flow"] ["self", "flow"] (defScope sCourse_pass_step) := ⟨rfl, rfl, rfl, by decide +kernel, rfl, by decide +kernel, by decide +kernel⟩
theorem okCourse_pass_step {f : Addr} {fd : FuncData} (F : Fun K "pass_step" "Course.pass_step" sCourse_pass_step f fd) (T : Txt K mg C) :
    FnOk P w K mg base CX0 1 f fd ["self", "flow"] (spCourse_pass_step K C) := by
  refine F.ok scCourse_pass_step (fun vs H Q E h => ?_) (fun cdv A outer s H vs Q E hr h => ?_)
  · obtain ⟨B, p, z, L, q, y, c, f, rfl, _⟩ := h
    rfl
  · obtain ⟨B, p, z, L, q, y, c, f, rfl, h1, ht, hlt, hl, k⟩ := h
    refine ⟨_, (pss_cons (ps_fldaug (pv 0) pe_int in_add)
      (pss_one (ps_if (pt_cmpR op_eq (pe_fld (pv 0) rfl) (pe_callB call_len_seq (by rfl) T.z_len (by decide +kernel) (pa_cons (pe_fld (pv 0) rfl) pa_nil)) (nomark _)) (pss_one (ps_if (pt_val (pe_fld (pv 0) rfl)) (pss_cons (ps_fld (pv 0) pe_int rfl)
      (pss_one (ps_expr (pe_bm PySem.F.plainAttrs_list PySem.F.slot_list_append PySem.F.type_list_append mt_append (pe_fld (pv 0) rfl) (pa_cons (pe_fld (pv 1) rfl) pa_nil))))) (pss_one (ps_fld (pv 0) (pe_fld (pv 1) rfl) rfl)))) pss_nil))), ?_⟩
    have hc := h1.at_
    rw [ht, ended_none (by omega)] at hc
    -- self.place += 1
    refine ⟨_, rfl, q, C.Course, y.dx, _, _, rfl, hc, T.cl_Course, T.n_Course_place, rfl, _, _, rfl, rfl, _, _, hc, by show 6 < 1000; decide, ?_⟩
    have h2 : H q = some (coO C y c) := h1.at_
    obtain ⟨vs, hst, htu⟩ := h1.st
    have hlen : vs.length = c.steps.length := by rw [htu.length, List.length_map]
    have hns : y.st ≠ q := fun e => by rw [e, h1.q0] at hst; cases hst
    refine ⟨_, rfl, _, _, _, _, _, rfl, upd_same, T.cl_Course, T.n_Course_place, rfl, _, rfl, _, _, _, _, _, rfl, upd_same, T.cl_Course, T.n_Course_steps, rfl, y.st, vs, rfl, .inl (SqL.of ?_), rfl, _, rfl, ?_⟩
    · rw [upd_ne hns]; exact h1.sub _ _ hst
    · refine ite2 (fun e => ?_) (fun e => ?_)
      · have e' : c.place + 1 = c.steps.length := by
          rw [dI] at e
          have := of_decide_eq_true e
          omega
        refine ⟨_, rfl, _, _, _, _, _, rfl, upd_same, T.cl_Course, T.n_Course_again, rfl, _, rfl, ?_⟩
        refine iteN (by decide) ?_
        obtain ⟨ad, r, fl, lg, hf⟩ := id h1.fl
        have hpq : p ≠ q := fun e => by have := hf.p0; rw [e, upd_same] at this; cases this
        refine ⟨_, rfl, p, C.Flow, z.dx, _, _, rfl, (upd_ne hpq).trans hf.ins, T.cl_Flow, T.n_Flow_tick, rfl, _, rfl, q, C.Course, y.dx, _, rfl, upd_same, T.cl_Course, T.n_Course_ended, by show 6 < 1000; decide, ?_⟩
        refine k _ ?_
        rw [upd_upd]
        refine h1.chg (c' := c.pass f.now) rfl ?_
        have e2 : (c.pass f.now).ended = some f.now := by rw [ended_some (by exact e'), pass_prev]
        unfold coO
        rw [e2]
        rfl
      · have e' : ¬ c.place + 1 = c.steps.length := by
          rw [dI] at e
          intro z
          exact e (decide_eq_true (by omega))
        refine k _ ?_
        refine h1.chg (c' := c.pass f.now) rfl ?_
        have e2 : (c.pass f.now).ended = none := ended_none (by exact e')
        unfold coO
        rw [e2]
        rfl
abbrev sCourse_rests : Stmt := inClass (topS 3) 2
theorem scCourse_rests : FnScope ["self", "flow", "ticks"] ["self", "flow", "ticks"] (defScope sCourse_rests) := ⟨rfl, rfl, rfl, by decide +kernel, rfl, by decide +kernel, by decide +kernel⟩
theorem okCourse_rests {f : Addr} {fd : FuncData} (F : Fun K "rests" "Course.rests" sCourse_rests f fd) (T : Txt K mg C) :
    FnOk P w K mg base CX0 1 f fd ["self", "flow", "ticks"] (spCourse_rests K C) := by
  refine F.ok scCourse_rests (fun vs H Q E h => ?_) (fun cdv A outer s H vs Q E hr h => ?_)
  · obtain ⟨B, p, z, L, q, y, c, f, n, rfl, _⟩ := h
    rfl
  · obtain ⟨B, p, z, L, q, y, c, f, n, rfl, h1, he, k1, k2⟩ := h
    refine ⟨_, (Evl.pss_cut (ps_if (pt_cmpR op_isN (pe_fld (pv 0) rfl) pe_non (nomark _)) (pss_one (ps_fld (pv 0) (pe_op op_add (pe_fld (pv 1) rfl) (pv 2)) rfl)) pss_nil)
      (pss_cons (ps_if (pt_cmpR op_lt (pe_fld (pv 1) rfl) (pe_fld (pv 0) rfl) (nomark _)) (pss_one (ps_ret pe_bl)) pss_nil)
      (pss_cons (ps_fld (pv 0) pe_non rfl)
      (pss_one (ps_ret pe_bl))))), ?_⟩
    have hc := h1.at_
    obtain ⟨ad, r, fl, lg, hf⟩ := id h1.fl
    have hpq : p ≠ q := fun e => by have := hf.p0; rw [e, upd_same] at this; cases this
    -- the state behind the first if
    refine ⟨fun σ' H' => σ' = [some (.ref q), some (.ref p), some (.int n)] ∧ CF C B H' p z L q y { c with til := some (c.til.getD (f.now + n)) } f, ?_, ?_⟩
    · refine ⟨_, rfl, _, _, _, _, _, rfl, hc, T.cl_Course, T.n_Course_until, rfl, rfl, _, rfl, ?_⟩
      by_cases ht : c.til = none
      · refine iteY (by simp [ht, optV]) ?_
        refine ⟨_, rfl, p, C.Flow, z.dx, _, _, rfl, hf.ins, T.cl_Flow, T.n_Flow_tick, rfl, _, rfl, _, _, rfl, rfl, _, rfl, q, C.Course, y.dx, _, rfl, hc, T.cl_Course, T.n_Course_until, by show 6 < 1000; decide, rfl, ?_⟩
        refine h1.chg (c' := { c with til := some (c.til.getD (f.now + n)) }) rfl ?_
        rw [ht]
        rfl
      · obtain ⟨u, hu⟩ := Option.ne_none_iff_exists'.mp ht
        refine iteN (by simp [hu, optV]) ?_
        refine ⟨rfl, ?_⟩
        have e : ({ c with til := some (c.til.getD (f.now + n)) } : Co) = c := by rw [hu]; show ({ c with til := some u } : Co) = c; rw [← hu]
        rw [e]
        exact h1
    · rintro σ' H' ⟨rfl, h2⟩
      have hc2 := h2.at_
      obtain ⟨ad2, r2, fl2, lg2, hf2⟩ := id h2.fl
      refine ⟨_, rfl, p, C.Flow, z.dx, _, _, rfl, hf2.ins, T.cl_Flow, T.n_Flow_tick, rfl, _, rfl, _, _, _, _, _, rfl, hc2, T.cl_Course, T.n_Course_until, rfl, _, _, rfl, rfl, _, rfl, ?_⟩
      refine ite2 (fun e => ?_) (fun e => ?_)
      · exact k1 (of_decide_eq_true e) _ h2
      · refine ⟨_, rfl, q, C.Course, y.dx, _, rfl, hc2, T.cl_Course, T.n_Course_until, by show 6 < 1000; decide, ?_⟩
        exact k2 (fun z => e (decide_eq_true z)) _ (h2.chg (c' := { c with til := none }) rfl rfl)
end
end Sh

namespace Sh
open PySem L2 PySem.Spec PyProof.Rows
theorem til_none {c : Co} {o : Op} (hc : CoOk c) (e : c.steps[c.place]? = some o) (h : ∀ n, o ≠ .pause n) : c.til = none := by
  cases ht : c.til with
  | none => rfl
  | some u =>
    obtain ⟨n, e2⟩ := hc.til u ht
    rw [e] at e2
    exact absurd (Option.some.inj e2) (h n)
section
variable {P : Program} {w : World} {K : PySem.W.Frag} {mg : Str → Option Value} {base : Heap} {C : AD}
abbrev sCourse_do_step : Stmt := inClass (topS 3) 3
theorem scCourse_do_step : FnScope ["self", "flow", "side", "word", "amount"] ["self", "flow", "side"] (defScope sCourse_do_step) := ⟨rfl, rfl, rfl, by decide +kernel, rfl, by decide +kernel, by decide +kernel⟩
theorem okCourse_do_step {f : Addr} {fd : FuncData} (F : Fun K "do_step" "Course.do_step" sCourse_do_step f fd) (T : Txt K mg C)
    (MCourse_pass_step : MOk P w K mg base C.Course "pass_step" 1 ["self", "flow"] (spCourse_pass_step K C))
    (MFlow_put : MOk P w K mg base C.Flow "put" 4 ["self", "side", "amount"] (spFlow_put K C))
    (MFlow_fresh : MOk P w K mg base C.Flow "fresh" 1 ["self", "side"] (spFlow_fresh K C))
    (MCourse_rests : MOk P w K mg base C.Course "rests" 1 ["self", "flow", "ticks"] (spCourse_rests K C)) :
    FnOk P w K mg base CX0 5 f fd ["self", "flow", "side"] (spCourse_do_step K C) := by
  obtain ⟨_, _, GCourse_pass_step, bCourse_pass_step, mCourse_pass_step⟩ := MCourse_pass_step.ex
  obtain ⟨_, _, GFlow_put, bFlow_put, mFlow_put⟩ := MFlow_put.ex
  obtain ⟨_, _, GFlow_fresh, bFlow_fresh, mFlow_fresh⟩ := MFlow_fresh.ex
  obtain ⟨_, _, GCourse_rests, bCourse_rests, mCourse_rests⟩ := MCourse_rests.ex
  refine F.ok scCourse_do_step (fun vs H Q E h => ?_) (fun cdv A outer s H vs Q E hr h => ?_)
  · obtain ⟨B, p, z, L, q, y, c, f, b, M, rfl, _⟩ := h
    rfl
  · obtain ⟨B, p, z, L, q, y, c, f, b, M, rfl, h1, hL, co, ok, hM, hlt, hl, k⟩ := h
    refine ⟨_, (pss_cons (ps_asg (pe_ix ix_list (pe_fld (pv 0) rfl) (pe_fld (pv 0) rfl) (fun _ _ => rfl)) (pg_tup rfl (pgs_cons (pg_name (i := 3) scCourse_do_step.nd rfl (Or.inl rfl)) (pgs_cons (pg_name (i := 4) scCourse_do_step.nd rfl (Or.inl rfl)) pgs_nil))))
      (Evl.pss_cut (ps_if (pt_cmpR op_eq (pv 3) pe_str (nomark _)) (pss_one (ps_expr (pe_meth (pv 1) T.cl_Flow mFlow_put GFlow_put (hr.mono (by decide)) bFlow_put .nil pass0 (pa_cons (pv 2) (pa_cons (pv 4) pa_nil))))) (pss_one (ps_if (pt_cmpR op_eq (pv 3) pe_str (nomark _)) (Evl.pss_cut (ps_if (pt_cmpR op_lt (pe_meth (pv 1) T.cl_Flow mFlow_fresh GFlow_fresh (hr.mono (by decide)) bFlow_fresh .nil pass0 (pa_cons (pv 2) pa_nil)) (pv 4) (nomark _)) (pss_one (ps_ret pe_bl)) pss_nil)
      (pss_one (ps_augS (pe_fld (pv 1) rfl) (pv 2) get_list (pv 4) ip_add set_list))) (pss_one (ps_if (pt_val (pe_meth (pv 0) T.cl_Course mCourse_rests GCourse_rests (hr.mono (by decide)) bCourse_rests .nil pass0 (pa_cons (pv 1) (pa_cons (pv 4) pa_nil)))) (pss_one (ps_ret pe_bl)) pss_nil)))))
      (pss_cons (ps_expr (pe_meth (pv 0) T.cl_Course mCourse_pass_step GCourse_pass_step (hr.mono (by decide)) bCourse_pass_step .nil pass0 (pa_cons (pv 1) pa_nil)))
      (pss_one (ps_ret pe_bl))))), ?_⟩
    have hc := h1.at_
    obtain ⟨ad, r, fl, lg, hf⟩ := id h1.fl
    have hpq : p ≠ q := fun e => by have := hf.p0; rw [e, upd_same] at this; cases this
    obtain ⟨vs, hst, htu⟩ := h1.st
    have hstH : H y.st = some (.lst vs) := h1.sub _ _ hst
    have hlen : vs.length = c.steps.length := by rw [htu.length, List.length_map]
    obtain ⟨v, hv⟩ : ∃ v, vs[c.place]? = some v := ⟨_, List.getElem?_eq_getElem (by omega)⟩
    obtain ⟨t, row, hr, rfl, hrow⟩ := htu.get hv
    have hrowH : H t = some (.tup row) := h1.sub _ _ hrow
    obtain ⟨o, ho⟩ : ∃ o, c.steps[c.place]? = some o := ⟨_, List.getElem?_eq_getElem hlt⟩
    have hro : row = rowO o := by
      rw [List.getElem?_map, ho] at hr
      exact (Option.some.inj hr).symm
    subst hro
    have hep := ended_none (c := c) (by omega)
    -- word, amount = self.steps[self.place]
    refine ⟨_, rfl, _, _, _, _, _, rfl, hc, T.cl_Course, T.n_Course_steps, rfl, _, rfl, _, _, _, _, _, rfl, hc, T.cl_Course, T.n_Course_place, rfl, y.st, vs, _, _, rfl, rfl, SqL.of hstH, atI_nat hv, ?_⟩
    cases o with
    | write n =>
      have hn : 0 < n := co.ops _ (List.mem_of_getElem? ho)
      have ht : c.til = none := til_none co ho (fun n e => by cases e)
      have hd := doStep_write (L := L) (b := b) (f := f) ho
      rw [hd] at k
      refine ⟨t, _, rfl, SqT.of hrowH, rfl, _, _, rfl, _, _, rfl, rfl, ?_⟩
      refine ⟨fun σ' H' => (∃ v3 v4, σ' = [some (.ref q), some (.ref p), some (.int (sI b)), v3, v4]) ∧ CF C B H' p z L q y c (put L f b n), ?_, ?_⟩
      · refine ⟨_, rfl, rfl, _, rfl, ?_⟩
        refine iteY (by decide +kernel) ?_
        have hr4 : rem (c.pass f.now) = rem c - 4 * n := rem_pass (t := f.now) ho
        have r0 := rem_nonneg (pass_ok (t := f.now) co ho)
        refine ⟨_, rfl, p, z.dx, _, rfl, hf.ins, (by rfl), _, rfl, _, rfl, L2.upd B q (coO C y c), p, z, L, f, b, n, M - rem (c.pass f.now), rfl, h1.fl, hL, ok.mono (by rw [hr4]; omega), hn, by omega, fun H' h' => ⟨⟨_, _, rfl⟩, h', h1.q0, h1.ln, h1.st⟩⟩
      · rintro σ' H' ⟨⟨v3, v4, rfl⟩, h2⟩
        have hc2 := h2.at_
        refine ⟨_, rfl, _, _, _, rfl, hc2, (by rfl), _, rfl, B, p, z, L, q, y, c, _, rfl, h2, ht, hlt, hl, fun H'' h3 => ?_⟩
        rw [put_now] at h3
        exact k _ h3
    | read n =>
      have ht : c.til = none := til_none co ho (fun n e => by cases e)
      refine ⟨t, _, rfl, SqT.of hrowH, rfl, _, _, rfl, _, _, rfl, rfl, ?_⟩
      refine ⟨fun σ' H' => (∃ v3 v4, σ' = [some (.ref q), some (.ref p), some (.int (sI b)), v3, v4]) ∧ ¬ (f.s b).come - (f.s b).taken < n ∧ CF C B H' p z L q y c { f with s := upS f.s b { f.s b with taken := (f.s b).taken + n } }, ?_, ?_⟩
      · refine ⟨_, rfl, rfl, _, rfl, ?_⟩
        refine iteN (by decide +kernel) ?_
        refine ⟨_, rfl, rfl, _, rfl, ?_⟩
        refine iteY (by decide +kernel) ?_
        refine ⟨_, ⟨_, rfl, p, z.dx, _, rfl, hf.ins, (by rfl), _, rfl, L2.upd B q (coO C y c), p, z, L, f, b, rfl, h1.fl, _, rfl, _, _, rfl, rfl, _, rfl, ?_⟩, fun σ' H' hh => hh⟩
        refine ite2 (fun e => ?_) (fun e => ?_)
        · have hd := doStep_read0 (L := L) (b := b) (f := f) ho (of_decide_eq_true e)
          rw [hd] at k
          exact k _ h1
        · have e' : ¬ (f.s b).come - (f.s b).taken < n := fun z => e (decide_eq_true z)
          refine ⟨_, rfl, p, C.Flow, z.dx, _, _, rfl, hf.ins, T.cl_Flow, T.n_Flow_taken, rfl, _, rfl, _, _, sN b, _, rfl, congrArg V.int (sI_nat b), SqL.of (hf.at_ .taken), cgt rfl, _, rfl, _, _, rfl, rfl, _, _, _, _, rfl, rfl, hf.at_ .taken, ixc rfl, ?_⟩
          have h2 := hf.pair (t := .taken) (b := b) (x' := { f.s b with taken := (f.s b).taken + n }) rfl rfl (fun u hu => by cases u <;> first | rfl | exact absurd rfl hu) rfl
          exact ⟨⟨_, _, rfl⟩, e', h2.mk', h1.q0, h1.ln, h1.st⟩
      · rintro σ' H' ⟨⟨v3, v4, rfl⟩, e', h2⟩
        have hd := doStep_read1 (L := L) (b := b) (f := f) ho e'
        rw [hd] at k
        have hc2 := h2.at_
        refine ⟨_, rfl, _, _, _, rfl, hc2, (by rfl), _, rfl, B, p, z, L, q, y, c, _, rfl, h2, ht, hlt, hl, fun H'' h3 => ?_⟩
        exact k _ h3
    | pause n =>
      refine ⟨t, _, rfl, SqT.of hrowH, rfl, _, _, rfl, _, _, rfl, rfl, ?_⟩
      refine ⟨fun σ' H' => (∃ v3 v4, σ' = [some (.ref q), some (.ref p), some (.int (sI b)), v3, v4]) ∧ ¬ f.now < c.til.getD (f.now + n) ∧ CF C B H' p z L q y { c with til := none } f, ?_, ?_⟩
      · refine ⟨_, rfl, rfl, _, rfl, ?_⟩
        refine iteN (by decide +kernel) ?_
        refine ⟨_, rfl, rfl, _, rfl, ?_⟩
        refine iteN (by decide +kernel) ?_
        refine ⟨_, rfl, _, _, _, rfl, hc, (by rfl), _, rfl, _, rfl, B, p, z, L, q, y, c, f, n, rfl, h1, hep, fun e H' h2 => ?_, fun e H' h2 => ?_⟩
        · refine ⟨_, rfl, iteT ?_⟩
          have hd := doStep_pause0 (L := L) (b := b) (f := f) ho e
          rw [hd] at k
          exact k _ h2
        · refine ⟨_, rfl, iteF ?_⟩
          exact ⟨⟨_, _, rfl⟩, e, h2⟩
      · rintro σ' H' ⟨⟨v3, v4, rfl⟩, e', h2⟩
        have hd := doStep_pause1 (L := L) (b := b) (f := f) ho e'
        rw [hd] at k
        have hc2 := h2.at_
        refine ⟨_, rfl, q, y.dx, _, rfl, hc2, (by rfl), _, rfl, B, p, z, L, q, y, { c with til := none }, _, rfl, h2, rfl, hlt, hl, fun H'' h3 => ?_⟩
        exact k _ h3
abbrev sCourse_go_on : Stmt := inClass (topS 3) 4
theorem scCourse_go_on : FnScope ["self", "flow", "side"] ["self", "flow", "side"] (defScope sCourse_go_on) := ⟨rfl, rfl, rfl, by decide +kernel, rfl, by decide +kernel, by decide +kernel⟩
theorem okCourse_go_on {f : Addr} {fd : FuncData} (F : Fun K "go_on" "Course.go_on" sCourse_go_on f fd) (T : Txt K mg C)
    (MCourse_do_step : MOk P w K mg base C.Course "do_step" 5 ["self", "flow", "side"] (spCourse_do_step K C)) :
    FnOk P w K mg base CX0 6 f fd ["self", "flow", "side"] (spCourse_go_on K C) := by
  obtain ⟨_, _, GCourse_do_step, bCourse_do_step, mCourse_do_step⟩ := MCourse_do_step.ex
  refine F.ok scCourse_go_on (fun vs H Q E h => ?_) (fun cdv A outer s H vs Q E hr h => ?_)
  · obtain ⟨B, p, z, L, q, y, c, f, b, M, rfl, _⟩ := h
    rfl
  · obtain ⟨B, p, z, L, q, y, c, f, b, M, rfl, h1, hL, co, ok, hM, hl, k⟩ := h
    refine ⟨_, (pss_one (ps_while PassesOwn.never (PW.pt (pw_and (pt_cmpR op_isN (pe_fld (pv 0) rfl) pe_non (nomark _)) (pw_and1 (pt_val (pe_meth (pv 0) T.cl_Course mCourse_do_step GCourse_do_step (hr.mono (by decide)) bCourse_do_step .nil pass0 (pa_cons (pv 1) (pa_cons (pv 2) pa_nil))))))) (pss_one ps_pass))), ?_⟩
    refine ⟨fun m σ H => ∃ f' c', σ = [some (.ref q), some (.ref p), some (.int (sI b))] ∧ CF C B H p z L q y c' f' ∧ CoOk c' ∧ Ok (M - rem c') f' ∧ goOn L b m f' c' = goAll L b f c ∧ c'.steps.length - c'.place < m ∧ c'.steps.length ≤ 1000,
      ⟨_, f, c, rfl, h1, co, ok, rfl, by omega, hl⟩, ?_⟩
    rintro m σ H ⟨f', c', rfl, h2, co2, ok2, e2, lt2, hl2⟩
    have hc := h2.at_
    cases m with
    | zero => omega
    | succ m =>
      refine ⟨_, rfl, _, _, _, _, _, rfl, hc, T.cl_Course, T.n_Course_ended, rfl, rfl, _, rfl, ?_⟩
      by_cases hp : c'.place = c'.steps.length
      · rw [ended_some hp]
        refine iteN (by simp [optV]) ?_
        refine iteF ?_
        have hn : doStep L b f' c' = (f', c', false) := doStep_none (List.getElem?_eq_none_iff.mpr (by omega))
        rw [goOn, hn] at e2
        refine k _ ?_
        rw [← e2]
        exact h2
      · rw [ended_none hp]
        refine iteY (by simp [optV]) ?_
        have hlt : c'.place < c'.steps.length := by have := co2.le; omega
        refine ⟨_, rfl, _, _, _, rfl, hc, (by rfl), _, rfl, _, rfl, B, p, z, L, q, y, c', f', b, M, rfl, h2, hL, co2, ok2, hM, hlt, hl2, fun H' h3 => ⟨_, rfl, ?_⟩⟩
        obtain ⟨o1, o2, o3⟩ := doStep_ok (b := b) hL co2 ok2
        rw [goOn] at e2
        refine ite2 (fun e => ?_) (fun e => ?_)
        · rw [if_pos e] at e2
          obtain ⟨p1, p2, p3⟩ := doStep_place e
          refine ⟨_, fun _ _ n => n, m, Nat.lt_succ_self m, _, _, rfl, h3, o2, o1, e2, by rw [p1, p2]; omega, by rw [p2]; exact hl2⟩
        · rw [if_neg e] at e2
          refine k _ ?_
          rw [← e2]
          exact h3
end
end Sh

namespace Sh
open PySem L2 PySem.Spec PyProof.Rows
/-! ### the system -/
def sysB (C : AD) (B : Hp) (q : Bool → Addr) (y : Bool → CoZ) (S : Sy) : Hp := L2.upd (L2.upd B (q false) (coO C (y false) (S.c false))) (q true) (coO C (y true) (S.c true))
structure SY (C : AD) (B H : Hp) (p : Addr) (z : FZ) (L : Ln) (q : Bool → Addr) (y : Bool → CoZ) (S : Sy) : Prop where
  fl : FlowAt C (sysB C B q y S) H p z L S.f
  q0 : ∀ b, B (q b) = none
  ne : q false ≠ q true
  ln : LnZ C B z L
  st : ∀ b, StepsAt B (y b) (S.c b).steps
section
variable {C : AD} {B B' H H' : Hp} {p a : Addr} {z : FZ} {L : Ln} {q : Bool → Addr} {y : Bool → CoZ} {S : Sy} {o : HO} {f : Fl} {c : Co} {b : Bool}
theorem same2 {B B' : Hp} {a b : Addr} {u v : HO} (s : Same B B') : Same (L2.upd (L2.upd B a u) b v) (L2.upd (L2.upd B' a u) b v) := fun x o h => by
  unfold L2.upd at h ⊢
  split
  · rename_i e; rw [if_pos e] at h; exact h
  · rename_i e
    rw [if_neg e] at h
    split
    · rename_i e'; rw [if_pos e'] at h; exact h
    · rename_i e'; rw [if_neg e'] at h; exact s _ _ h
theorem SY.sysb (h : SY C B H p z L q y S) : Same B (sysB C B q y S) :=
  (same_upd (h.q0 false)).trans (same_upd (by rw [upd_ne h.ne.symm]; exact h.q0 true))
theorem SY.sub (h : SY C B H p z L q y S) : Same B H := h.sysb.trans h.fl.sameB
theorem sysB_at (hn : q false ≠ q true) (b : Bool) : sysB C B q y S (q b) = some (coO C (y b) (S.c b)) := by
  cases b
  · unfold sysB; rw [upd_ne hn, upd_same]
  · unfold sysB; rw [upd_same]
theorem SY.at_ (h : SY C B H p z L q y S) (b : Bool) : H (q b) = some (.ins C.Course (y b).dx (fCo (y b).st (y b).bg (S.c b).place (optV (S.c b).til) (optV (S.c b).ended))) := h.fl.sameB _ _ (sysB_at h.ne b)
/-- one course and the flow, the other course in the base -/
theorem sysB_one (hn : q false ≠ q true) (b : Bool) : sysB C B q y S = L2.upd (L2.upd B (q (!b)) (coO C (y (!b)) (S.c (!b)))) (q b) (coO C (y b) (S.c b)) := by
  cases b
  · unfold sysB; exact upd_comm hn
  · rfl
theorem SY.cf (h : SY C B H p z L q y S) (b : Bool) : CF C (L2.upd B (q (!b)) (coO C (y (!b)) (S.c (!b)))) H p z L (q b) (y b) (S.c b) S.f := by
  have hne : q b ≠ q (!b) := by cases b; exact h.ne; exact h.ne.symm
  have sB : Same B (L2.upd B (q (!b)) (coO C (y (!b)) (S.c (!b)))) := same_upd (h.q0 _)
  refine ⟨?_, by rw [upd_ne hne]; exact h.q0 b, h.ln.same sB, ?_⟩
  · rw [← sysB_one h.ne b]; exact h.fl
  · obtain ⟨vs, h1, h2⟩ := h.st b
    exact ⟨vs, sB _ _ h1, h2.keep' fun _ _ e => sB _ _ e⟩
theorem SY.of_cf (h : SY C B H p z L q y S) (h' : CF C (L2.upd B (q (!b)) (coO C (y (!b)) (S.c (!b)))) H' p z L (q b) (y b) c f) (e : c.steps = (S.c b).steps) : SY C B H' p z L q y (setC S b f c) := by
  refine ⟨?_, h.q0, h.ne, h.ln, fun d => ?_⟩
  · rw [sysB_one h.ne b, setC_c, setC_ne nb]
    exact h'.fl
  · by_cases hd : d = b
    · subst hd; rw [setC_c, e]; exact h.st d
    · rw [setC_ne hd]; exact h.st d
/-- a new thing, put into the base -/
theorem SY.new (h : SY C B H p z L q y S) (hq : H a = none) : SY C (L2.upd B a o) (L2.upd H a o) p z L q y S := by
  have hqa : ∀ b, q b ≠ a := fun b => ne_of_none (h.at_ b) hq
  have hB : B a = none := h.sub.free hq
  have s : Same B (L2.upd B a o) := same_upd hB
  refine ⟨?_, fun b => by rw [upd_ne (hqa b)]; exact h.q0 b, h.ne, h.ln.same s, fun b => ?_⟩
  · have := h.fl.new (o := o) hq
    have e : L2.upd (sysB C B q y S) a o = sysB C (L2.upd B a o) q y S := by
      unfold sysB
      rw [upd_comm (hqa true), upd_comm (H := B) (hqa false)]
    rw [← e]
    exact this
  · obtain ⟨vs, h1, h2⟩ := h.st b
    exact ⟨vs, s _ _ h1, h2.keep' fun _ _ e => s _ _ e⟩
theorem SY.ext (h : SY C B H p z L q y S) (e : Same H H') : SY C B H' p z L q y S := ⟨h.fl.ext e, h.q0, h.ne, h.ln, h.st⟩
theorem SY.down (h : SY C B' H p z L q y S) (s : Same B B') (l : LnZ C B z L) (st : ∀ b, StepsAt B (y b) (S.c b).steps) : SY C B H p z L q y S := by
  have q0 : ∀ b, B (q b) = none := fun b => s.free (h.q0 b)
  refine ⟨h.fl.down (same2 s) (l.same ?_), q0, h.ne, l, st⟩
  exact (same_upd (q0 false)).trans (same_upd (by rw [upd_ne h.ne.symm]; exact q0 true))
/-- another flow, the same courses -/
theorem SY.flow (h : SY C B H p z L q y S) (h' : FlowAt C (sysB C B q y S) H' p z L f) : SY C B H' p z L q y ⟨f, S.c⟩ := ⟨h', h.q0, h.ne, h.ln, h.st⟩
end
def spdo_tick (_ : PySem.W.Frag) (C : AD) : Sp := fun vs H Q _ => ∃ (B : Hp) (p cs : Addr) (z : FZ) (L : Ln) (q : Bool → Addr) (y : Bool → CoZ) (S : Sy) (t M : Int), vs = [.ref p, .ref cs, .int t] ∧ SY C B H p z L q y S ∧
  B cs = some (.tup [.ref (q false), .ref (q true)]) ∧ LnOk L ∧ SyOk M S ∧ M ≤ 1000000 ∧ (∀ b, (S.c b).steps.length ≤ 1000) ∧ ∀ H', SY C B H' p z L q y (doTick L S t) → Q .non H'
def spevents (_ : PySem.W.Frag) (C : AD) : Sp := fun vs H Q _ => ∃ (B : Hp) (p cs : Addr) (z : FZ) (L : Ln) (q : Bool → Addr) (y : Bool → CoZ) (S : Sy) (M : Int), vs = [.ref p, .ref cs] ∧ SY C B H p z L q y S ∧
  B cs = some (.tup [.ref (q false), .ref (q true)]) ∧ Ok M S.f ∧ M ≤ 1000000 ∧ ∀ H' v, Same H H' → MinV (evs L S) v → Q v H'
theorem qIx (q : Bool → Addr) (b : Bool) : atI [V.ref (q false), V.ref (q true)] (sI b) = some (.ref (q b)) := by cases b <;> rfl
theorem minV_join {a b : List Int} {v : V} (h : MinV b v) : (v = .non → MinV a = MinV (a ++ b)) ∧ (∀ t, v = .int t → ∀ u, MinV (a ++ [t]) u → MinV (a ++ b) u) := by
  refine ⟨fun e => ?_, fun t e u hu => ?_⟩
  · rcases h with ⟨h1, _⟩ | ⟨t, _, h2⟩
    · rw [h1, List.append_nil]
    · rw [e] at h2; cases h2
  · rcases h with ⟨_, h2⟩ | ⟨t', ⟨h1, h1'⟩, h2⟩
    · rw [e] at h2; cases h2
    · rw [e] at h2; cases h2
      rcases hu with ⟨hn, _⟩ | ⟨m, ⟨m1, m2⟩, m3⟩
      · exact absurd hn (by simp)
      · refine .inr ⟨m, ⟨?_, fun x hx => ?_⟩, m3⟩
        · rcases List.mem_append.mp m1 with r | r
          · exact List.mem_append_left _ r
          · rw [List.mem_singleton.mp r]; exact List.mem_append_right _ h1
        · rcases List.mem_append.mp hx with r | r
          · exact m2 x (List.mem_append_left _ r)
          · have := m2 t (List.mem_append_right _ (List.mem_singleton.mpr rfl))
            have := h1' x r
            omega
def tilsN (S : Sy) : Nat → List Int
  | 0 => []
  | 1 => (S.c false).til.toList
  | _ => (S.c false).til.toList ++ (S.c true).til.toList
theorem pairQ {q : Bool → Addr} {i : Nat} {x : V} (h : [V.ref (q false), V.ref (q true)][i]? = some x) : (i = 0 ∧ x = .ref (q false)) ∨ (i = 1 ∧ x = .ref (q true)) := by
  match i, h with
  | 0, h => exact .inl ⟨rfl, (Option.some.inj h).symm⟩
  | 1, h => exact .inr ⟨rfl, (Option.some.inj h).symm⟩
  | i + 2, h => simp at h
section
variable {P : Program} {w : World} {K : PySem.W.Frag} {mg : Str → Option Value} {base : Heap} {C : AD}
abbrev sdo_tick : Stmt := topS 5
theorem scdo_tick : FnScope ["flow", "courses", "tick", "side"] ["flow", "courses", "tick"] (defScope sdo_tick) := ⟨rfl, rfl, rfl, by decide +kernel, rfl, by decide +kernel, by decide +kernel⟩
theorem okdo_tick {f : Addr} {fd : FuncData} (F : Fun K "do_tick" "do_tick" sdo_tick f fd) (T : Txt K mg C)
    (MFlow_leave : MOk P w K mg base C.Flow "leave" 3 ["self"] (spFlow_leave K C))
    (MCourse_go_on : MOk P w K mg base C.Course "go_on" 6 ["self", "flow", "side"] (spCourse_go_on K C))
    (MFlow_begin : MOk P w K mg base C.Flow "begin" 4 ["self", "tick"] (spFlow_begin K C)) :
    FnOk P w K mg base CX0 7 f fd ["flow", "courses", "tick"] (spdo_tick K C) := by
  obtain ⟨_, _, GFlow_leave, bFlow_leave, mFlow_leave⟩ := MFlow_leave.ex
  obtain ⟨_, _, GCourse_go_on, bCourse_go_on, mCourse_go_on⟩ := MCourse_go_on.ex
  obtain ⟨_, _, GFlow_begin, bFlow_begin, mFlow_begin⟩ := MFlow_begin.ex
  refine F.ok scdo_tick (fun vs H Q E h => ?_) (fun cdv A outer s H vs Q E hr h => ?_)
  · obtain ⟨B, p, cs, z, L, q, y, S, t, M, rfl, _⟩ := h
    rfl
  · obtain ⟨B, p, cs, z, L, q, y, S, t, M, rfl, h1, hcs, hL, ok, hM, hl, k⟩ := h
    refine ⟨_, (pss_cons (ps_expr (pe_meth (pv 0) T.cl_Flow mFlow_begin GFlow_begin (hr.mono (by decide)) bFlow_begin .nil pass0 (pa_cons (pv 2) pa_nil)))
      (pss_cons (ps_for PassesOwn.never rfl (pi_tup (pe_tup (pa_cons pe_int (pa_cons pe_int pa_nil)))) (pg_name (i := 3) scdo_tick.nd rfl (Or.inl rfl)) (pss_one (ps_expr (pe_meth (pe_ix ix_tup (pv 1) (pv 3) (fun _ _ => rfl)) T.cl_Course mCourse_go_on GCourse_go_on (hr.mono (by decide)) bCourse_go_on .nil pass0 (pa_cons (pv 0) (pa_cons (pv 3) pa_nil))))))
      (pss_one (ps_expr (pe_meth0 (pv 0) T.cl_Flow mFlow_leave GFlow_leave (hr.mono (by decide)) bFlow_leave .nil pass0))))), ?_⟩
    obtain ⟨ad, r, fl, lg, hf⟩ := id h1.fl
    -- flow.begin(tick)
    refine ⟨_, rfl, _, _, _, rfl, hf.ins, (by rfl), _, rfl, sysB C B q y S, p, z, L, S.f, t, _, rfl, h1.fl, hL, ok.ok, ?_, fun H1 f1 => ?_⟩
    · have := rem_nonneg (ok.co false)
      have := rem_nonneg (ok.co true)
      omega
    have h2 : SY C B H1 p z L q y (tickIn L S t) := h1.flow f1
    have ok2 := tickIn_ok hL ok t
    -- for side in (0, 1)
    refine ⟨by show 2 ≤ sizeLine; decide, fun u hu => ⟨u, rfl, ⟨_, SqT.of upd_same⟩, ?_⟩⟩
    have h3 := h2.new (o := .tup [.int 0, .int 1]) hu
    have hBu : B u = none := h2.sub.free hu
    have sB : Same B (L2.upd B u (.tup [.int 0, .int 1])) := same_upd hBu
    refine for_tup (K := K) (a := u) (xs := [.int 0, .int 1]) (fun i σ H' => ∃ v3 T, σ = [some (.ref p), some (.ref cs), some (.int t), v3] ∧ SY C (L2.upd B u (.tup [.int 0, .int 1])) H' p z L q y T ∧ SyOk M T ∧ (∀ b, (T.c b).steps.length ≤ 1000) ∧
      T = (match i with | 0 => tickIn L S t | 1 => go1 L false (tickIn L S t) | _ => tickMid L S t))
      ⟨_, _, rfl, h3, ok2, hl, rfl⟩ (fun i σ H' _ h => ?_) ?_ ?_
    · obtain ⟨_, _, _, h, _⟩ := h
      exact SqT.of (h.sub _ _ upd_same)
    · rintro i x σ H' hi ⟨v3, T', rfl, hT, okT, hlT, eT⟩
      have one : ∀ b, CF C (L2.upd (L2.upd B u (.tup [.int 0, .int 1])) (q (!b)) (coO C (y (!b)) (T'.c (!b)))) H' p z L (q b) (y b) (T'.c b) T'.f := fun b => hT.cf b
      have hcsH : H' cs = some (.tup [.ref (q false), .ref (q true)]) := hT.sub _ _ (sB _ _ hcs)
      have le1 : ∀ b, M - rem (T'.c (!b)) ≤ 1000000 := fun b => by have := rem_nonneg (okT.co (!b)); omega
      rcases pair01 hi with ⟨rfl, rfl⟩ | ⟨rfl, rfl⟩
      · have hc := (one false).at_
        refine ⟨_, rfl, _, rfl, cs, _, _, _, rfl, rfl, SqT.of hcsH, qIx q false, q false, _, _, rfl, hc, (by rfl), _, rfl, _, rfl, _, p, z, L, q false, y false, T'.c false, T'.f, false, M - rem (T'.c (!false)), rfl, one false, hL, okT.co false, okT.at false, le1 false, hlT false, fun H'' h4 => ?_⟩
        refine ⟨_, go1 L false T', rfl, hT.of_cf h4 ?_, (go1_ok hL okT).1, fun b => by rw [go1_steps]; exact hlT b, by rw [eT]; rfl⟩
        have : ((go1 L false T').c false).steps = (T'.c false).steps := go1_steps
        rw [go1_c] at this
        exact this
      · have hc := (one true).at_
        refine ⟨_, rfl, _, rfl, cs, _, _, _, rfl, rfl, SqT.of hcsH, qIx q true, q true, _, _, rfl, hc, (by rfl), _, rfl, _, rfl, _, p, z, L, q true, y true, T'.c true, T'.f, true, M - rem (T'.c (!true)), rfl, one true, hL, okT.co true, okT.at true, le1 true, hlT true, fun H'' h4 => ?_⟩
        refine ⟨_, go1 L true T', rfl, hT.of_cf h4 ?_, (go1_ok hL okT).1, fun b => by rw [go1_steps]; exact hlT b, by rw [eT]; rfl⟩
        have : ((go1 L true T').c true).steps = (T'.c true).steps := go1_steps
        rw [go1_c] at this
        exact this
    · rintro σ H' ⟨v3, T', rfl, hT, okT, hlT, eT⟩
      have eT' : T' = tickMid L S t := eT
      subst eT'
      obtain ⟨ad4, r4, fl4, lg4, hf4⟩ := id hT.fl
      have le1 : M - rem ((tickMid L S t).c false) - rem ((tickMid L S t).c true) ≤ 1000000 := by
        have := rem_nonneg (okT.co false)
        have := rem_nonneg (okT.co true)
        omega
      refine ⟨_, rfl, _, _, _, rfl, hf4.ins, (by rfl), _, p, z, L, _, _, rfl, hT.fl, hL, okT.ok, le1, fun H'' h5 => ?_⟩
      refine k _ ?_
      have h6 : SY C (L2.upd B u (.tup [.int 0, .int 1])) H'' p z L q y (doTick L S t) := hT.flow h5
      exact h6.down sB h1.ln fun b => by rw [doTick_steps]; exact h1.st b
abbrev sevents : Stmt := topS 4
theorem scevents : FnScope ["flow", "courses", "ticks", "after", "course"] ["flow", "courses"] (defScope sevents) := ⟨rfl, rfl, rfl, by decide +kernel, rfl, by decide +kernel, by decide +kernel⟩
theorem okevents {f : Addr} {fd : FuncData} (F : Fun K "events" "events" sevents f fd) (T : Txt K mg C)
    (MFlow_next_tick : MOk P w K mg base C.Flow "next_tick" 1 ["self"] (spFlow_next_tick K C)) :
    FnOk P w K mg base CX0 2 f fd ["flow", "courses"] (spevents K C) := by
  obtain ⟨_, _, GFlow_next_tick, bFlow_next_tick, mFlow_next_tick⟩ := MFlow_next_tick.ex
  refine F.ok scevents (fun vs H Q E h => ?_) (fun cdv A outer s H vs Q E hr h => ?_)
  · obtain ⟨B, p, cs, z, L, q, y, S, M, rfl, _⟩ := h
    rfl
  · obtain ⟨B, p, cs, z, L, q, y, S, M, rfl, h1, hcs, ok, hM, k⟩ := h
    refine ⟨_, (pss_cons (ps_setLc (i := 2) (own := [("course", 4)]) rfl scevents.nd rfl rfl (sw_true rfl rfl rfl (by decide +kernel)) (pi_tup (pv 1)) (blkOk_by (N := ["flow", "courses", "ticks", "after", "course"]) (sc := defScope sevents) (by decide +kernel)) (fun _ _ _ _ _ => by exact (pg_name (i := 4) scevents.nd rfl (Or.inl rfl))) (fun _ _ _ _ _ => by exact (pts_one (pt_cmpR op_notN (pe_fldK (K := K) rfl (pv 4) rfl) pe_non (nomark _)))) (fun _ _ _ _ _ => by exact (pe_fldK (K := K) rfl (pv 4) rfl)))
      (pss_cons (ps_set (i := 3) scevents.nd rfl (Or.inl rfl) (pe_meth0 (pv 0) T.cl_Flow mFlow_next_tick GFlow_next_tick (hr.mono (by decide)) bFlow_next_tick .nil pass0))
      (Evl.pss_cut (ps_if (pt_cmpR op_notN (pv 3) pe_non (nomark _)) (pss_one (ps_expr (pe_bm PySem.F.plainAttrs_list PySem.F.slot_list_append PySem.F.type_list_append mt_append (pv 2) (pa_cons (pv 3) pa_nil)))) pss_nil)
      (pss_one (ps_ret (pe_ifExp (pt_cmpR op_gt (pe_callB call_len_seq (by rfl) T.z_len (by decide +kernel) (pa_cons (pv 2) pa_nil)) pe_int (nomark _)) (pe_callB (cr_min rfl) (by rfl) T.z_min (by decide +kernel) (pa_cons (pv 2) pa_nil)) pe_non)))))), ?_⟩
    have hcsH : H cs = some (.tup [.ref (q false), .ref (q true)]) := h1.sub _ _ hcs
    -- ticks = [..]
    refine ⟨_, rfl, cs, rfl, ⟨_, SqT.of hcsH⟩, fun D hD => ?_⟩
    refine lc_tup (K := K) (a := cs) (xs := [.ref (q false), .ref (q true)]) (fun i H' => Same H H' ∧ H' D = some (.lst ((tilsN S i).map V.int))) ⟨same_upd hD, upd_same⟩ (fun i H' _ h => SqT.of (h.1 _ _ hcsH)) (fun i x H' hi h => ?_) (fun H2 h2 => ?_)
    · obtain ⟨eH, hDH⟩ := h
      rcases pairQ hi with ⟨rfl, rfl⟩ | ⟨rfl, rfl⟩
      · have hc := (h1.ext eH).at_ false
        refine ⟨rfl, _, rfl, _, _, _, _, _, rfl, hc, T.cl_Course, T.n_Course_until, rfl, rfl, _, rfl, ?_⟩
        cases ht : (S.c false).til with
        | none =>
          refine iteN (by simp [optV]) ⟨eH, ?_⟩
          have e : tilsN S (0 + 1) = [] := by show (S.c false).til.toList = []; rw [ht]; rfl
          rw [e]; exact hDH
        | some u =>
          refine iteY (by simp [optV]) ?_
          rw [ht] at hc
          refine ⟨_, rfl, _, _, _, _, _, rfl, hc, T.cl_Course, T.n_Course_until, rfl, _, hDH, by show 0 < sizeLine; decide, Same.upd0 eH hD, ?_⟩
          have e : tilsN S (0 + 1) = [u] := by show (S.c false).til.toList = [u]; rw [ht]; rfl
          rw [upd_same, e]
          rfl
      · have hc := (h1.ext eH).at_ true
        refine ⟨rfl, _, rfl, _, _, _, _, _, rfl, hc, T.cl_Course, T.n_Course_until, rfl, rfl, _, rfl, ?_⟩
        cases ht : (S.c true).til with
        | none =>
          refine iteN (by simp [optV]) ⟨eH, ?_⟩
          have e : tilsN S (1 + 1) = tilsN S 1 := by show (S.c false).til.toList ++ (S.c true).til.toList = (S.c false).til.toList; rw [ht]; simp
          rw [e]; exact hDH
        | some u =>
          refine iteY (by simp [optV]) ?_
          rw [ht] at hc
          have l1 : (tilsN S 1).length ≤ 1 := by show (S.c false).til.toList.length ≤ 1; cases (S.c false).til <;> simp
          refine ⟨_, rfl, _, _, _, _, _, rfl, hc, T.cl_Course, T.n_Course_until, rfl, _, hDH, by rw [List.length_map]; exact big_line (by omega), Same.upd0 eH hD, ?_⟩
          have e : tilsN S (1 + 1) = tilsN S 1 ++ [u] := by show (S.c false).til.toList ++ (S.c true).til.toList = _; rw [ht]; rfl
          rw [upd_same, e]
          simp [optV]
    obtain ⟨e2, hD2⟩ := h2
    have h3 := h1.ext e2
    obtain ⟨ad, r, fl, lg, hf⟩ := id h3.fl
    have l2 : (tilsN S 2).length ≤ 2 := by show ((S.c false).til.toList ++ (S.c true).til.toList).length ≤ 2; cases (S.c false).til <;> cases (S.c true).til <;> simp
    have eev : evs L S = tilsN S 2 ++ ticksOf L S.f := rfl
    -- after = flow.next_tick()
    refine ⟨_, rfl, _, _, _, rfl, hf.ins, (by rfl), _, p, z, L, S.f, M, rfl, h3.fl, ok, hM, fun H3 v e3 hv => ?_⟩
    have hD3 : H3 D = some (.lst ((tilsN S 2).map V.int)) := e3 _ _ hD2
    refine ⟨fun σ' H' => ∃ l, (∃ v3 v4, σ' = [some (.ref p), some (.ref cs), some (.ref D), v3, v4]) ∧ Same H H' ∧ H' D = some (.lst (l.map V.int)) ∧ ∀ u, MinV l u → MinV (evs L S) u, ?_, ?_⟩
    · refine ⟨_, rfl, rfl, _, rfl, ?_⟩
      rcases hv with ⟨hn, rfl⟩ | ⟨m, hm, rfl⟩
      · refine iteN (by simp) ?_
        refine ⟨tilsN S 2, ⟨_, _, rfl⟩, e2.trans e3, hD3, fun u hu => ?_⟩
        rw [eev, hn, List.append_nil]; exact hu
      · refine iteY (by simp) ?_
        refine ⟨_, rfl, .inl ⟨rfl, _, SqL.of hD3⟩, _, rfl, D, _, _, rfl, rfl, hD3, by rw [List.length_map]; exact big_line (by omega), ?_⟩
        refine ⟨tilsN S 2 ++ [m], ⟨_, _, rfl⟩, Same.upd0 (e2.trans e3) hD, ?_, fun u hu => ?_⟩
        · rw [upd_same]; simp
        · rw [eev]
          exact (minV_join (a := tilsN S 2) (b := ticksOf L S.f) (v := .int m) (.inr ⟨m, hm, rfl⟩)).2 m rfl u hu
    · rintro σ' H' ⟨l, ⟨v3, v4, rfl⟩, eH, hDl, hl⟩
      refine ⟨_, rfl, D, _, rfl, .inl (SqL.of hDl), _, _, rfl, rfl, _, rfl, ?_⟩
      refine ite2 (fun c => ?_) (fun c => ?_)
      · have c' : 0 < l.length := by
          have := of_decide_eq_true c
          rw [List.length_map] at this
          omega
        refine ⟨_, rfl, D, l, rfl, SqL.of hDl, c', fun m hm hle => ?_⟩
        exact k _ _ eH (hl _ (.inr ⟨m, ⟨hm, hle⟩, rfl⟩))
      · have c' : l = [] := by
          cases l with
          | nil => rfl
          | cons a l => exact absurd (decide_eq_true (by simp)) c
        exact k _ _ eH (hl _ (.inl ⟨c', rfl⟩))
end
end Sh

namespace Sh
open PySem L2 PySem.Spec PyProof.Rows
/-! ### numbers, settings, lines -/
def spis_integer (_ : PySem.W.Frag) (_ : AD) : Sp := fun vs H Q _ => ∃ v, vs = [v] ∧ ((∃ i, v = .int i ∧ Q (.bl true) H) ∨ (∃ x, v = .str x ∧ Q (.bl false) H))
def spis_between (_ : PySem.W.Frag) (_ : AD) : Sp := fun vs H Q _ => ∃ v lo hi, vs = [v, .int lo, .int hi] ∧ ((∃ i, v = .int i ∧ Q (.bl (decide (lo ≤ i) && decide (i ≤ hi))) H) ∨ (∃ x, v = .str x ∧ Q (.bl false) H))
def spcheck_number (_ : PySem.W.Frag) (_ : AD) : Sp := fun vs H Q _ => ∃ i lo hi, vs = [.int i, .int lo, .int hi] ∧ lo ≤ i ∧ i ≤ hi ∧ Q .non H
structure SetOk (s : Setg) : Prop where
  e1 : 1 ≤ s.every
  e2 : s.every ≤ 4
  d1 : 0 ≤ s.delay
  d2 : s.delay ≤ 200
structure LinOk (L : Ln) : Prop where
  s1 : 1 ≤ L.size
  s2 : L.size ≤ 40
  w1 : 1 ≤ L.way
  w2 : L.way ≤ 200
  st : ∀ b, SetOk (L.st b)
theorem LinOk.ok {L : Ln} (h : LinOk L) : LnOk L := ⟨h.s1, h.w1, fun b => (h.st b).e1, fun b => (h.st b).d1⟩
def spSetting___init__ (_ : PySem.W.Frag) (C : AD) : Sp := fun vs H Q _ => ∃ (H0 : Hp) (a dx : Addr) (s : Setg), vs = [.ref a, .str (ruleS s.rule), .int s.every, .int s.delay] ∧ SetOk s ∧ H a = some (.ins C.Setting dx []) ∧ Same H0 H ∧ H0 a = none ∧
  ∀ H', Same H0 H' → SetAt C H' a s → Q .non H'
def spcheck_setting (_ : PySem.W.Frag) (C : AD) : Sp := fun vs H Q _ => ∃ (a : Addr) (s : Setg), vs = [.ref a] ∧ SetAt C H a s ∧ Q .non H
def spLine___init__ (_ : PySem.W.Frag) (C : AD) : Sp := fun vs H Q _ => ∃ (H0 : Hp) (a dx near far : Addr) (L : Ln), vs = [.ref a, .int L.size, .int L.way, .ref near, .ref far] ∧ LinOk L ∧ H a = some (.ins C.Line dx []) ∧ Same H0 H ∧ H0 a = none ∧
  SetAt C H0 near (L.st false) ∧ SetAt C H0 far (L.st true) ∧ ∀ H', Same H0 H' → LineAt C H' a near far L → Q .non H'
def spcheck_line (_ : PySem.W.Frag) (C : AD) : Sp := fun vs H Q _ => ∃ (a near far : Addr) (L : Ln), vs = [.ref a] ∧ LineAt C H a near far L ∧ Q .non H
section
variable {P : Program} {w : World} {K : PySem.W.Frag} {mg : Str → Option Value} {base : Heap} {C : AD}
abbrev sis_integer : Stmt := topS 24
theorem scis_integer : FnScope ["value"] ["value"] (defScope sis_integer) := ⟨rfl, rfl, rfl, by decide +kernel, rfl, by decide +kernel, by decide +kernel⟩
theorem okis_integer {f : Addr} {fd : FuncData} (F : Fun K "is_integer" "is_integer" sis_integer f fd) (T : Txt K mg C) :
    FnOk P w K mg base CX0 1 f fd ["value"] (spis_integer K C) := by
  refine F.ok scis_integer (fun vs H Q E h => ?_) (fun cdv A outer s H vs Q E hr h => ?_)
  · obtain ⟨v, rfl, _⟩ := h
    rfl
  · obtain ⟨v, rfl, h⟩ := h
    refine ⟨_, (pss_one (ps_ret (pe_and (pe_callB call_isi (by rfl) T.z_isinstance (by decide +kernel) (pa_cons (pv 0) (pa_cons (pe_bltn (v := .ty "int") (by rfl) T.z_int (by decide +kernel) rfl) pa_nil))) (pe_one (pe_not (pe_callB call_isi (by rfl) T.z_isinstance (by decide +kernel) (pa_cons (pv 0) (pa_cons (pe_bltn (v := .ty "bool") (by rfl) T.z_bool (by decide +kernel) rfl) pa_nil)))))))), ?_⟩
    rcases h with ⟨i, rfl, k⟩ | ⟨x, rfl, k⟩
    · refine ⟨_, rfl, .int i, .ty "int", _, _, true, rfl, .ty _, .base (.int i), kit_ty (by decide +kernel), true, rfl, iteY rfl ?_⟩
      exact ⟨_, rfl, .int i, .ty "bool", _, _, false, rfl, .ty _, .base (.int i), kit_ty (by decide +kernel), false, rfl, k⟩
    · exact ⟨_, rfl, .str x, .ty "int", _, _, false, rfl, .ty _, .base (.str x), kit_ty (by decide +kernel), false, rfl, iteN (by decide) k⟩
abbrev sis_between : Stmt := topS 25
theorem scis_between : FnScope ["value", "low", "high"] ["value", "low", "high"] (defScope sis_between) := ⟨rfl, rfl, rfl, by decide +kernel, rfl, by decide +kernel, by decide +kernel⟩
theorem okis_between {f : Addr} {fd : FuncData} (F : Fun K "is_between" "is_between" sis_between f fd) (T : Txt K mg C)
    (Mis_integer : GOk P w K mg base "is_integer" 1 ["value"] (spis_integer K C)) :
    FnOk P w K mg base CX0 2 f fd ["value", "low", "high"] (spis_between K C) := by
  obtain ⟨_, _, Gis_integer, bis_integer, gis_integer, kis_integer⟩ := Mis_integer.ex
  refine F.ok scis_between (fun vs H Q E h => ?_) (fun cdv A outer s H vs Q E hr h => ?_)
  · obtain ⟨v, lo, hi, rfl, _⟩ := h
    rfl
  · obtain ⟨v, lo, hi, rfl, h⟩ := h
    refine ⟨_, (pss_one (ps_ret (pe_and (pe_call Gis_integer (hr.mono (by decide)) (by rfl) gis_integer kis_integer bis_integer .nil pass0 (pa_cons (pv 0) pa_nil)) (pe_one (pe_chain op_le op_le (pv 1) (pv 0) (pv 2)))))), ?_⟩
    rcases h with ⟨i, rfl, k⟩ | ⟨x, rfl, k⟩
    · refine ⟨_, rfl, _, rfl, .inl ⟨i, rfl, true, rfl, iteY rfl ?_⟩⟩
      refine ⟨_, rfl, _, rfl, _, _, rfl, rfl, _, rfl, ?_⟩
      by_cases c : lo ≤ i
      · rw [if_pos (decide_eq_true c)]
        refine ⟨_, rfl, _, _, rfl, rfl, ?_⟩
        rw [decide_eq_true c] at k
        exact k
      · rw [if_neg (by simp [c])]
        rw [decide_eq_false c] at k
        exact k
    · exact ⟨_, rfl, _, rfl, .inr ⟨x, rfl, false, rfl, iteN (by decide) k⟩⟩
abbrev scheck_number : Stmt := topS 26
theorem sccheck_number : FnScope ["value", "low", "high"] ["value", "low", "high"] (defScope scheck_number) := ⟨rfl, rfl, rfl, by decide +kernel, rfl, by decide +kernel, by decide +kernel⟩
theorem okcheck_number {f : Addr} {fd : FuncData} (F : Fun K "check_number" "check_number" scheck_number f fd) (T : Txt K mg C)
    (Mis_between : GOk P w K mg base "is_between" 2 ["value", "low", "high"] (spis_between K C)) :
    FnOk P w K mg base CX0 3 f fd ["value", "low", "high"] (spcheck_number K C) := by
  obtain ⟨_, _, Gis_between, bis_between, gis_between, kis_between⟩ := Mis_between.ex
  refine F.ok sccheck_number (fun vs H Q E h => ?_) (fun cdv A outer s H vs Q E hr h => ?_)
  · obtain ⟨i, lo, hi, rfl, _⟩ := h
    rfl
  · obtain ⟨i, lo, hi, rfl, h1, h2, k⟩ := h
    refine ⟨_, (pss_one (ps_if (pt_not (pt_val (pe_call Gis_between (hr.mono (by decide)) (by rfl) gis_between kis_between bis_between .nil pass0 (pa_cons (pv 0) (pa_cons (pv 1) (pa_cons (pv 2) pa_nil)))))) (pss_one ps_never) pss_nil)), ?_⟩
    refine ⟨_, rfl, _, rfl, _, rfl, _, lo, hi, rfl, .inl ⟨i, rfl, _, rfl, iteN ?_ k⟩⟩
    simp [h1, h2]
abbrev sSetting___init__ : Stmt := inClass (topS 27) 0
theorem scSetting___init__ : FnScope ["self", "rule", "every", "delay"] ["self", "rule", "every", "delay"] (defScope sSetting___init__) := ⟨rfl, rfl, rfl, by decide +kernel, rfl, by decide +kernel, by decide +kernel⟩
theorem okSetting___init__ {f : Addr} {fd : FuncData} (F : Fun K "__init__" "Setting.__init__" sSetting___init__ f fd) (T : Txt K mg C)
    (Mcheck_number : GOk P w K mg base "check_number" 3 ["value", "low", "high"] (spcheck_number K C)) :
    FnOk P w K mg base CX0 4 f fd ["self", "rule", "every", "delay"] (spSetting___init__ K C) := by
  obtain ⟨_, _, Gcheck_number, bcheck_number, gcheck_number, kcheck_number⟩ := Mcheck_number.ex
  refine F.ok scSetting___init__ (fun vs H Q E h => ?_) (fun cdv A outer s H vs Q E hr h => ?_)
  · obtain ⟨H0, a, dx, s, rfl, _⟩ := h
    rfl
  · obtain ⟨H0, a, dx, s, rfl, ok, ha, s0, a0, k⟩ := h
    refine ⟨_, (pss_cons (ps_if (PW.pt (pw_or (pt_not (pt_val (pe_callB call_isi (by rfl) T.z_isinstance (by decide +kernel) (pa_cons (pv 1) (pa_cons (pe_bltn (v := .ty "str") (by rfl) T.z_str (by decide +kernel) rfl) pa_nil))))) (pw_or1 (pt_cmpR op_notIn_seq (pv 1) (pe_gl (by rfl) T.g_RULES) (by rfl))))) (pss_one ps_never) pss_nil)
      (pss_cons (ps_expr (pe_call Gcheck_number (hr.mono (by decide)) (by rfl) gcheck_number kcheck_number bcheck_number .nil pass0 (pa_cons (pv 2) (pa_cons pe_int (pa_cons (pe_gl (by rfl) T.g_MOST_EVERY) pa_nil)))))
      (pss_cons (ps_expr (pe_call Gcheck_number (hr.mono (by decide)) (by rfl) gcheck_number kcheck_number bcheck_number .nil pass0 (pa_cons (pv 3) (pa_cons pe_int (pa_cons (pe_gl (by rfl) T.g_MOST_DELAY) pa_nil)))))
      (pss_cons (ps_fld (pv 0) (pv 1) rfl)
      (pss_cons (ps_fld (pv 0) (pv 2) rfl)
      (pss_cons (ps_fld (pv 0) (pv 3) rfl)
      (pss_one (ps_fld (pv 0) (pe_tup (pa_cons (pv 1) (pa_cons (pv 2) (pa_cons (pv 3) pa_nil)))) rfl)))))))), ?_⟩
    have hR := T.rules H
    refine ⟨_, rfl, .str (ruleS s.rule), .ty "str", _, _, true, rfl, .ty _, .base (.str _), kit_ty (by decide +kernel), true, rfl, iteN (by decide) ?_⟩
    refine ⟨_, rfl, C.rules, _, rfl, .inr hR, rfl, rfl, false, ?_, iteN (by decide) ?_⟩
    · cases s.rule <;> decide +kernel
    refine ⟨_, rfl, s.every, 1, 4, rfl, ok.e1, ok.e2, ?_⟩
    refine ⟨_, rfl, s.delay, 0, 200, rfl, ok.d1, ok.d2, ?_⟩
    refine ⟨_, rfl, _, rfl, a, C.Setting, dx, [], rfl, ha, T.cl_Setting, T.n_Setting_rule, by decide, ?_⟩
    refine ⟨_, rfl, _, rfl, a, C.Setting, dx, _, rfl, upd_same, T.cl_Setting, T.n_Setting_every, by show 1 < 1000; decide, ?_⟩
    refine ⟨_, rfl, _, rfl, a, C.Setting, dx, _, rfl, upd_same, T.cl_Setting, T.n_Setting_delay, by show 2 < 1000; decide, ?_⟩
    refine ⟨_, rfl, _, rfl, _, rfl, by show 3 ≤ sizeLine; decide, fun t ht => ⟨_, rfl, a, C.Setting, dx, [("rule", .str (ruleS s.rule)), ("every", .int s.every), ("delay", .int s.delay)], rfl, ?_, T.cl_Setting, T.n_Setting_told, ?_, ?_⟩⟩
    · rw [upd_ne (ne_of_none upd_same ht)]; exact upd_same
    · show 3 < 1000; decide
    have nat : a ≠ t := ne_of_none upd_same ht
    refine k _ (Same.upd0 ?_ a0) ⟨dx, t, [.str (ruleS s.rule), .int s.every, .int s.delay], upd_same, ?_⟩
    · exact Same.trans (Same.upd0 (Same.upd0 (Same.upd0 s0 a0) a0) a0) (same_upd ht)
    · rw [upd_ne nat.symm, upd_same]
abbrev scheck_setting : Stmt := topS 28
theorem sccheck_setting : FnScope ["value"] ["value"] (defScope scheck_setting) := ⟨rfl, rfl, rfl, by decide +kernel, rfl, by decide +kernel, by decide +kernel⟩
theorem okcheck_setting {f : Addr} {fd : FuncData} (F : Fun K "check_setting" "check_setting" scheck_setting f fd) (T : Txt K mg C) :
    FnOk P w K mg base CX0 1 f fd ["value"] (spcheck_setting K C) := by
  refine F.ok sccheck_setting (fun vs H Q E h => ?_) (fun cdv A outer s H vs Q E hr h => ?_)
  · obtain ⟨a, s, rfl, _⟩ := h
    rfl
  · obtain ⟨a, s, rfl, ⟨dx, t, xs, ha, _⟩, k⟩ := h
    refine ⟨_, (pss_one (ps_if (pt_not (pt_val (pe_callB (C8.call_isC T.i_Setting) (by rfl) T.z_isinstance (by decide +kernel) (pa_cons (pv 0) (pa_cons (pe_gl (by rfl) T.g_Setting) pa_nil))))) (pss_one ps_never) pss_nil)), ?_⟩
    exact ⟨_, rfl, a, dx, _, rfl, ha, true, rfl, iteN (by decide) k⟩
abbrev sLine___init__ : Stmt := inClass (topS 29) 0
theorem scLine___init__ : FnScope ["self", "size", "way", "near", "far"] ["self", "size", "way", "near", "far"] (defScope sLine___init__) := ⟨rfl, rfl, rfl, by decide +kernel, rfl, by decide +kernel, by decide +kernel⟩
theorem okLine___init__ {f : Addr} {fd : FuncData} (F : Fun K "__init__" "Line.__init__" sLine___init__ f fd) (T : Txt K mg C)
    (Mcheck_setting : GOk P w K mg base "check_setting" 1 ["value"] (spcheck_setting K C))
    (Mcheck_number : GOk P w K mg base "check_number" 3 ["value", "low", "high"] (spcheck_number K C)) :
    FnOk P w K mg base CX0 4 f fd ["self", "size", "way", "near", "far"] (spLine___init__ K C) := by
  obtain ⟨_, _, Gcheck_setting, bcheck_setting, gcheck_setting, kcheck_setting⟩ := Mcheck_setting.ex
  obtain ⟨_, _, Gcheck_number, bcheck_number, gcheck_number, kcheck_number⟩ := Mcheck_number.ex
  refine F.ok scLine___init__ (fun vs H Q E h => ?_) (fun cdv A outer s H vs Q E hr h => ?_)
  · obtain ⟨H0, a, dx, near, far, L, rfl, _⟩ := h
    rfl
  · obtain ⟨H0, a, dx, near, far, L, rfl, ok, ha, s0, a0, hn, hf, k⟩ := h
    refine ⟨_, (pss_cons (ps_expr (pe_call Gcheck_number (hr.mono (by decide)) (by rfl) gcheck_number kcheck_number bcheck_number .nil pass0 (pa_cons (pv 1) (pa_cons pe_int (pa_cons (pe_gl (by rfl) T.g_MOST_SIZE) pa_nil)))))
      (pss_cons (ps_expr (pe_call Gcheck_number (hr.mono (by decide)) (by rfl) gcheck_number kcheck_number bcheck_number .nil pass0 (pa_cons (pv 2) (pa_cons pe_int (pa_cons (pe_gl (by rfl) T.g_MOST_WAY) pa_nil)))))
      (pss_cons (ps_expr (pe_call Gcheck_setting (hr.mono (by decide)) (by rfl) gcheck_setting kcheck_setting bcheck_setting .nil pass0 (pa_cons (pv 3) pa_nil)))
      (pss_cons (ps_expr (pe_call Gcheck_setting (hr.mono (by decide)) (by rfl) gcheck_setting kcheck_setting bcheck_setting .nil pass0 (pa_cons (pv 4) pa_nil)))
      (pss_cons (ps_fld (pv 0) (pv 1) rfl)
      (pss_cons (ps_fld (pv 0) (pv 2) rfl)
      (pss_cons (ps_fld (pv 0) (pv 3) rfl)
      (pss_cons (ps_fld (pv 0) (pv 4) rfl)
      (pss_one (ps_fld (pv 0) (pe_tup (pa_cons (pv 1) (pa_cons (pv 2) (pa_cons (pe_fld (pv 3) rfl) (pa_cons (pe_fld (pv 4) rfl) pa_nil))))) rfl)))))))))), ?_⟩
    refine ⟨_, rfl, L.size, 1, 40, rfl, ok.s1, ok.s2, ?_⟩
    refine ⟨_, rfl, L.way, 1, 200, rfl, ok.w1, ok.w2, ?_⟩
    refine ⟨_, rfl, near, _, rfl, hn.same s0, ?_⟩
    refine ⟨_, rfl, far, _, rfl, hf.same s0, ?_⟩
    refine ⟨_, rfl, _, rfl, a, C.Line, dx, [], rfl, ha, T.cl_Line, T.n_Line_size, by decide, ?_⟩
    refine ⟨_, rfl, _, rfl, a, C.Line, dx, _, rfl, upd_same, T.cl_Line, T.n_Line_way, by show 1 < 1000; decide, ?_⟩
    refine ⟨_, rfl, _, rfl, a, C.Line, dx, _, rfl, upd_same, T.cl_Line, T.n_Line_near, by show 2 < 1000; decide, ?_⟩
    refine ⟨_, rfl, _, rfl, a, C.Line, dx, _, rfl, upd_same, T.cl_Line, T.n_Line_far, by show 3 < 1000; decide, ?_⟩
    have s4 := Same.upd0 (o := .ins C.Line dx (putF "far" (.ref far) (putF "near" (.ref near) (putF "way" (.int L.way) (putF "size" (.int L.size) []))))) (Same.upd0 (o := .ins C.Line dx (putF "near" (.ref near) (putF "way" (.int L.way) (putF "size" (.int L.size) [])))) (Same.upd0 (o := .ins C.Line dx (putF "way" (.int L.way) (putF "size" (.int L.size) []))) (Same.upd0 (o := .ins C.Line dx (putF "size" (.int L.size) [])) s0 a0) a0) a0) a0
    obtain ⟨dn, tn, xn, hn1, hn2⟩ := id (hn.same s4)
    obtain ⟨df, tf, xf, hf1, hf2⟩ := id (hf.same s4)
    refine ⟨_, rfl, _, rfl, _, rfl, _, _, _, _, _, rfl, hn1, T.cl_Setting, T.n_Setting_told, rfl, _, rfl, _, _, _, _, _, rfl, hf1, T.cl_Setting, T.n_Setting_told, rfl, by show 4 ≤ sizeLine; decide, fun t ht => ⟨_, rfl, a, C.Line, dx, [("size", .int L.size), ("way", .int L.way), ("near", .ref near), ("far", .ref far)], rfl, ?_, T.cl_Line, T.n_Line_told, ?_, ?_⟩⟩
    · rw [upd_ne (ne_of_none upd_same ht)]; exact upd_same
    · show 4 < 1000; decide
    have s5 := Same.upd0 (o := .ins C.Line dx (fLine L near far t)) (Same.trans s4 (same_upd ht (o := .tup [.int L.size, .int L.way, .ref tn, .ref tf]))) a0
    exact k _ s5 ⟨⟨dx, t, upd_same⟩, hn.same s5, hf.same s5⟩
abbrev scheck_line : Stmt := topS 30
theorem sccheck_line : FnScope ["value"] ["value"] (defScope scheck_line) := ⟨rfl, rfl, rfl, by decide +kernel, rfl, by decide +kernel, by decide +kernel⟩
theorem okcheck_line {f : Addr} {fd : FuncData} (F : Fun K "check_line" "check_line" scheck_line f fd) (T : Txt K mg C) :
    FnOk P w K mg base CX0 1 f fd ["value"] (spcheck_line K C) := by
  refine F.ok sccheck_line (fun vs H Q E h => ?_) (fun cdv A outer s H vs Q E hr h => ?_)
  · obtain ⟨a, near, far, L, rfl, _⟩ := h
    rfl
  · obtain ⟨a, near, far, L, rfl, h1, k⟩ := h
    refine ⟨_, (pss_one (ps_if (pt_not (pt_val (pe_callB (C8.call_isC T.i_Line) (by rfl) T.z_isinstance (by decide +kernel) (pa_cons (pv 0) (pa_cons (pe_gl (by rfl) T.g_Line) pa_nil))))) (pss_one ps_never) pss_nil)), ?_⟩
    obtain ⟨dx, t, ha⟩ := h1.ln
    exact ⟨_, rfl, a, dx, _, rfl, ha, true, rfl, iteN (by decide) k⟩
end
end Sh

namespace Sh
open PySem L2 PySem.Spec PyProof.Rows
/-! ### a new flow, a new course -/
structure Ini (H0 H : Hp) (p C dx : Addr) (fs : List (Str × V)) (as : List (Addr × List V)) : Prop where
  same : Same H0 H
  p0 : H0 p = none
  ins : H p = some (.ins C dx fs)
  els : ∀ q ∈ as, H q.1 = some (.lst q.2) ∧ H0 q.1 = none
  nd : (as.map Prod.fst).Nodup
section
variable {H0 H : Hp} {p C dx x : Addr} {fs fs' : List (Str × V)} {as : List (Addr × List V)} {xs : List V}
theorem Ini.fld (h : Ini H0 H p C dx fs as) (fs' : List (Str × V)) : Ini H0 (L2.upd H p (.ins C dx fs')) p C dx fs' as :=
  ⟨Same.upd0 h.same h.p0, h.p0, upd_same, fun q hq => ⟨by rw [upd_ne (ne_of (h.els q hq).1 h.ins (by intro z; cases z))]; exact (h.els q hq).1, (h.els q hq).2⟩, h.nd⟩
theorem Ini.alloc (h : Ini H0 H p C dx fs as) (hx : H x = none) (xs : List V) : Ini H0 (L2.upd H x (.lst xs)) p C dx fs (as ++ [(x, xs)]) := by
  refine ⟨h.same.trans (same_upd hx), h.p0, by rw [upd_ne (ne_of_none h.ins hx)]; exact h.ins, fun q hq => ?_, ?_⟩
  · rcases List.mem_append.mp hq with r | r
    · rw [upd_ne (ne_of_none (h.els q r).1 hx)]; exact h.els q r
    · rw [List.mem_singleton.mp r]
      exact ⟨upd_same, h.same.free hx⟩
  · rw [List.map_append, List.nodup_append]
    refine ⟨h.nd, by simp, fun a ha b hb e => ?_⟩
    obtain ⟨q, hq, rfl⟩ := List.mem_map.mp ha
    have : b = x := by simpa using hb
    rw [this] at e
    exact ne_of_none (h.els q hq).1 hx e
/-- a new list into a field -/
theorem Ini.lst (h : Ini H0 H p C dx fs as) (hx : H x = none) (xs : List V) (fs' : List (Str × V)) : Ini H0 (L2.upd (L2.upd H x (.lst xs)) p (.ins C dx fs')) p C dx fs' (as ++ [(x, xs)]) := (h.alloc hx xs).fld fs'
/-- a new tuple -/
theorem Ini.tup (h : Ini H0 H p C dx fs as) (hx : H x = none) (o : HO) : Ini (L2.upd H0 x o) (L2.upd H x o) p C dx fs as := by
  have n : ∀ b u, H b = some u → b ≠ x := fun b u hb => ne_of_none hb hx
  refine ⟨fun b u hb => ?_, ?_, by rw [upd_ne (n _ _ h.ins)]; exact h.ins, fun q hq => ?_, h.nd⟩
  · by_cases y : b = x
    · subst y; rw [upd_same] at hb ⊢; exact hb
    · rw [upd_ne y] at hb ⊢; exact h.same _ _ hb
  · rw [upd_ne (n _ _ h.ins)]; exact h.p0
  · have q1 := n _ _ (h.els q hq).1
    rw [upd_ne q1, upd_ne q1]; exact h.els q hq
end
def tgN : Tg → Nat
  | .s0 => 0
  | .s1 => 1
  | .stock => 2
  | .out => 3
  | .known => 4
  | .small => 5
  | .come => 6
  | .taken => 7
  | .full => 8
  | .first => 9
  | .long => 10
  | .flight => 11
  | .log => 12
theorem tgN_inj : ∀ {t u : Tg}, tgN t = tgN u → t = u := by
  intro t u h
  cases t <;> cases u <;> first | rfl | (exact absurd h (by decide))
theorem tgN_lt (t : Tg) : tgN t < 13 := by cases t <;> decide
def spFlow___init__ (_ : PySem.W.Frag) (C : AD) : Sp := fun vs H Q _ => ∃ (H0 : Hp) (p dx ln near far : Addr) (L : Ln), vs = [.ref p, .ref ln] ∧ H p = some (.ins C.Flow dx []) ∧ Same H0 H ∧ H0 p = none ∧ LineAt C H0 ln near far L ∧
  ∀ H' stg, H stg = none → FlowAt C (upd H0 stg (.tup [.ref near, .ref far])) H' p ⟨dx, ln, near, far, stg⟩ L fl0 → Q .non H'
def spCourse___init__ (_ : PySem.W.Frag) (C : AD) : Sp := fun vs H Q _ => ∃ (H0 : Hp) (q dx st : Addr) (l : List Op) (rv : List V), vs = [.ref q, .ref st, .bl false] ∧ H q = some (.ins C.Course dx []) ∧ Same H0 H ∧ H0 q = none ∧ H0 st = some (.lst rv) ∧ rv.length = l.length ∧
  ∀ H' bg, Same H0 H' → H' q = some (coO C ⟨dx, st, bg⟩ (co0 l)) → Q .non H'
section
variable {P : Program} {w : World} {K : PySem.W.Frag} {mg : Str → Option Value} {base : Heap} {C : AD}
abbrev sFlow___init__ : Stmt := inClass (topS 2) 0
theorem scFlow___init__ : FnScope ["self", "line"] ["self", "line"] (defScope sFlow___init__) := ⟨rfl, rfl, rfl, by decide +kernel, rfl, by decide +kernel, by decide +kernel⟩
theorem okFlow___init__ {f : Addr} {fd : FuncData} (F : Fun K "__init__" "Flow.__init__" sFlow___init__ f fd) (T : Txt K mg C) :
    FnOk P w K mg base CX0 1 f fd ["self", "line"] (spFlow___init__ K C) := by
  refine F.ok scFlow___init__ (fun vs H Q E h => ?_) (fun cdv A outer s H vs Q E hr h => ?_)
  · obtain ⟨H0, p, dx, ln, near, far, L, rfl, _⟩ := h
    rfl
  · obtain ⟨H0, p, dx, ln, near, far, L, rfl, hp, s0, p0, hl, k⟩ := h
    refine ⟨_, (pss_cons (ps_fld (pv 0) (pv 1) rfl)
      (pss_cons (ps_fld (pv 0) (pe_tup (pa_cons (pe_fld (pv 1) rfl) (pa_cons (pe_fld (pv 1) rfl) pa_nil))) rfl)
      (pss_cons (ps_fld (pv 0) pe_int rfl)
      (pss_cons (ps_fld (pv 0) (pe_lst (pa_cons (pe_lst pa_nil) (pa_cons (pe_lst pa_nil) pa_nil))) rfl)
      (pss_cons (ps_fld (pv 0) (pe_lst (pa_cons pe_int (pa_cons pe_int pa_nil))) rfl)
      (pss_cons (ps_fld (pv 0) (pe_lst (pa_cons pe_int (pa_cons pe_int pa_nil))) rfl)
      (pss_cons (ps_fld (pv 0) (pe_lst (pa_cons pe_int (pa_cons pe_int pa_nil))) rfl)
      (pss_cons (ps_fld (pv 0) (pe_lst (pa_cons pe_int (pa_cons pe_int pa_nil))) rfl)
      (pss_cons (ps_fld (pv 0) (pe_lst (pa_cons pe_int (pa_cons pe_int pa_nil))) rfl)
      (pss_cons (ps_fld (pv 0) (pe_lst (pa_cons pe_int (pa_cons pe_int pa_nil))) rfl)
      (pss_cons (ps_fld (pv 0) (pe_lst (pa_cons pe_non (pa_cons pe_non pa_nil))) rfl)
      (pss_cons (ps_fld (pv 0) (pe_lst (pa_cons pe_int (pa_cons pe_int pa_nil))) rfl)
      (pss_cons (ps_fld (pv 0) (pe_lst pa_nil) rfl)
      (pss_one (ps_fld (pv 0) (pe_lst pa_nil) rfl))))))))))))))), ?_⟩
    have i0 : Ini H0 H p C.Flow dx [] [] := ⟨s0, p0, hp, fun q hq => absurd hq (List.not_mem_nil), List.nodup_nil⟩
    refine ⟨_, rfl, _, rfl, p, C.Flow, dx, _, rfl, hp, T.cl_Flow, T.n_Flow_line, by decide, ?_⟩
    have i1 := i0.fld [("line", .ref ln)]
    obtain ⟨dl, tl, hln⟩ := (hl.same i1.same).ln
    refine ⟨_, rfl, _, _, _, _, _, rfl, hln, T.cl_Line, T.n_Line_near, rfl, _, rfl, _, _, _, _, _, rfl, hln, T.cl_Line, T.n_Line_far, rfl, by show 2 ≤ sizeLine; decide, fun stg hs => ⟨_, rfl, p, C.Flow, dx, [("line", .ref ln)], rfl, ?_, T.cl_Flow, T.n_Flow_settings, by show 1 < 1000; decide, ?_⟩⟩
    · rw [upd_ne (ne_of_none i1.ins hs)]; exact i1.ins
    have i2 := (i1.tup hs (.tup [.ref near, .ref far])).fld [("line", .ref ln), ("settings", .ref stg)]
    have hsH : H stg = none := by rw [upd_ne (ne_of_none i1.ins hs).symm] at hs; exact hs
    -- self.tick = 0
    refine ⟨_, rfl, p, C.Flow, dx, _, rfl, i2.ins, T.cl_Flow, T.n_Flow_tick, by show 2 < 1000; decide, ?_⟩
    have i3 := i2.fld [("line", .ref ln), ("settings", .ref stg), ("tick", .int 0)]
    -- self.stock = [[], []]
    refine ⟨by show 0 ≤ sizeLine; decide, fun a0 h0 => ⟨by show 0 ≤ sizeLine; decide, fun a1 h1 => ⟨by show 2 ≤ sizeLine; decide, fun a2 h2 => ?_⟩⟩⟩
    have i4 := ((i3.alloc h0 []).alloc h1 []).alloc h2 [.ref a0, .ref a1]
    refine ⟨_, rfl, p, C.Flow, dx, _, rfl, i4.ins, T.cl_Flow, T.n_Flow_stock, by show 3 < 1000; decide, ?_⟩
    have i5 := i4.fld [("line", .ref ln), ("settings", .ref stg), ("tick", .int 0), ("stock", .ref a2)]
    refine ⟨by show 2 ≤ sizeLine; decide, fun a3 h3 => ?_⟩
    have i6 := i5.alloc h3 [.int 0, .int 0]
    refine ⟨_, rfl, p, C.Flow, dx, _, rfl, i6.ins, T.cl_Flow, T.n_Flow_out, by show 4 < 1000; decide, ?_⟩
    have i7 := i6.fld [("line", .ref ln), ("settings", .ref stg), ("tick", .int 0), ("stock", .ref a2), ("out", .ref a3)]
    refine ⟨by show 2 ≤ sizeLine; decide, fun a4 h4 => ?_⟩
    have i8 := i7.alloc h4 [.int 0, .int 0]
    refine ⟨_, rfl, p, C.Flow, dx, _, rfl, i8.ins, T.cl_Flow, T.n_Flow_known, by show 5 < 1000; decide, ?_⟩
    have i9 := i8.fld [("line", .ref ln), ("settings", .ref stg), ("tick", .int 0), ("stock", .ref a2), ("out", .ref a3), ("known", .ref a4)]
    refine ⟨by show 2 ≤ sizeLine; decide, fun a5 h5 => ?_⟩
    have j0 := i9.alloc h5 [.int 0, .int 0]
    refine ⟨_, rfl, p, C.Flow, dx, _, rfl, j0.ins, T.cl_Flow, T.n_Flow_small, by show 6 < 1000; decide, ?_⟩
    have j1 := j0.fld [("line", .ref ln), ("settings", .ref stg), ("tick", .int 0), ("stock", .ref a2), ("out", .ref a3), ("known", .ref a4), ("small", .ref a5)]
    refine ⟨by show 2 ≤ sizeLine; decide, fun a6 h6 => ?_⟩
    have j2 := j1.alloc h6 [.int 0, .int 0]
    refine ⟨_, rfl, p, C.Flow, dx, _, rfl, j2.ins, T.cl_Flow, T.n_Flow_come, by show 7 < 1000; decide, ?_⟩
    have j3 := j2.fld [("line", .ref ln), ("settings", .ref stg), ("tick", .int 0), ("stock", .ref a2), ("out", .ref a3), ("known", .ref a4), ("small", .ref a5), ("come", .ref a6)]
    refine ⟨by show 2 ≤ sizeLine; decide, fun a7 h7 => ?_⟩
    have j4 := j3.alloc h7 [.int 0, .int 0]
    refine ⟨_, rfl, p, C.Flow, dx, _, rfl, j4.ins, T.cl_Flow, T.n_Flow_taken, by show 8 < 1000; decide, ?_⟩
    have j5 := j4.fld [("line", .ref ln), ("settings", .ref stg), ("tick", .int 0), ("stock", .ref a2), ("out", .ref a3), ("known", .ref a4), ("small", .ref a5), ("come", .ref a6), ("taken", .ref a7)]
    refine ⟨by show 2 ≤ sizeLine; decide, fun a8 h8 => ?_⟩
    have j6 := j5.alloc h8 [.int 0, .int 0]
    refine ⟨_, rfl, p, C.Flow, dx, _, rfl, j6.ins, T.cl_Flow, T.n_Flow_full, by show 9 < 1000; decide, ?_⟩
    have j7 := j6.fld [("line", .ref ln), ("settings", .ref stg), ("tick", .int 0), ("stock", .ref a2), ("out", .ref a3), ("known", .ref a4), ("small", .ref a5), ("come", .ref a6), ("taken", .ref a7), ("full", .ref a8)]
    refine ⟨by show 2 ≤ sizeLine; decide, fun a9 h9 => ?_⟩
    have j8 := j7.alloc h9 [.non, .non]
    refine ⟨_, rfl, p, C.Flow, dx, _, rfl, j8.ins, T.cl_Flow, T.n_Flow_first, by show 10 < 1000; decide, ?_⟩
    have j9 := j8.fld [("line", .ref ln), ("settings", .ref stg), ("tick", .int 0), ("stock", .ref a2), ("out", .ref a3), ("known", .ref a4), ("small", .ref a5), ("come", .ref a6), ("taken", .ref a7), ("full", .ref a8), ("first", .ref a9)]
    refine ⟨by show 2 ≤ sizeLine; decide, fun b0 g0 => ?_⟩
    have k0 := j9.alloc g0 [.int 0, .int 0]
    refine ⟨_, rfl, p, C.Flow, dx, _, rfl, k0.ins, T.cl_Flow, T.n_Flow_long, by show 11 < 1000; decide, ?_⟩
    have k1 := k0.fld [("line", .ref ln), ("settings", .ref stg), ("tick", .int 0), ("stock", .ref a2), ("out", .ref a3), ("known", .ref a4), ("small", .ref a5), ("come", .ref a6), ("taken", .ref a7), ("full", .ref a8), ("first", .ref a9), ("long", .ref b0)]
    refine ⟨by show 0 ≤ sizeLine; decide, fun b1 g1 => ?_⟩
    have k2 := k1.alloc g1 []
    refine ⟨_, rfl, p, C.Flow, dx, _, rfl, k2.ins, T.cl_Flow, T.n_Flow_flight, by show 12 < 1000; decide, ?_⟩
    have k3 := k2.fld [("line", .ref ln), ("settings", .ref stg), ("tick", .int 0), ("stock", .ref a2), ("out", .ref a3), ("known", .ref a4), ("small", .ref a5), ("come", .ref a6), ("taken", .ref a7), ("full", .ref a8), ("first", .ref a9), ("long", .ref b0), ("flight", .ref b1)]
    refine ⟨by show 0 ≤ sizeLine; decide, fun b2 g2 => ?_⟩
    have k4 := k3.alloc g2 []
    refine ⟨_, rfl, p, C.Flow, dx, _, rfl, k4.ins, T.cl_Flow, T.n_Flow_log, by show 13 < 1000; decide, ?_⟩
    have k5 := k4.fld [("line", .ref ln), ("settings", .ref stg), ("tick", .int 0), ("stock", .ref a2), ("out", .ref a3), ("known", .ref a4), ("small", .ref a5), ("come", .ref a6), ("taken", .ref a7), ("full", .ref a8), ("first", .ref a9), ("long", .ref b0), ("flight", .ref b1), ("log", .ref b2)]
    refine k _ stg hsH ?_
    let l : List Addr := [a0, a1, a2, a3, a4, a5, a6, a7, a8, a9, b0, b1, b2]
    have nd : l.Nodup := k5.nd
    let ad : Tg → Addr := fun t => l[tgN t]'(tgN_lt t)
    have els : ∀ t, _ := fun t => k5.els (ad t, cont ad (fun _ => []) [] [] fl0.s t) (by cases t <;> simp [ad, l, tgN, cont, fl0, sd0, fv, optV])
    refine ⟨ad, fun _ => [], [], [], ⟨k5.same, k5.p0, fun t => (els t).2, fun t u e => ?_, k5.ins, fun t => (els t).1, fun b => .nil, .nil, .nil, ?_⟩⟩
    · exact tgN_inj ((List.getElem?_inj (tgN_lt t) nd).mp ((List.getElem?_eq_getElem (tgN_lt t)).trans ((congrArg some e).trans (List.getElem?_eq_getElem (tgN_lt u)).symm)))
    · have hs0 : H0 stg = none := s0.free hsH
      exact ⟨hl.same (same_upd hs0), upd_same⟩
abbrev sCourse___init__ : Stmt := inClass (topS 3) 0
theorem scCourse___init__ : FnScope ["self", "steps", "again"] ["self", "steps", "again"] (defScope sCourse___init__) := ⟨rfl, rfl, rfl, by decide +kernel, rfl, by decide +kernel, by decide +kernel⟩
theorem okCourse___init__ {f : Addr} {fd : FuncData} (F : Fun K "__init__" "Course.__init__" sCourse___init__ f fd) (T : Txt K mg C) :
    FnOk P w K mg base CX0 1 f fd ["self", "steps", "again"] (spCourse___init__ K C) := by
  refine F.ok scCourse___init__ (fun vs H Q E h => ?_) (fun cdv A outer s H vs Q E hr h => ?_)
  · obtain ⟨H0, q, dx, st, l, rv, rfl, _⟩ := h
    rfl
  · obtain ⟨H0, q, dx, st, l, rv, rfl, hq, s0, q0, hst, hlen, k⟩ := h
    refine ⟨_, (pss_cons (ps_fld (pv 0) (pv 1) rfl)
      (pss_cons (ps_fld (pv 0) (pv 2) rfl)
      (pss_cons (ps_fld (pv 0) pe_int rfl)
      (pss_cons (ps_fld (pv 0) pe_non rfl)
      (pss_cons (ps_fld (pv 0) (pe_ifExp (pt_cmpR op_eq (pe_callB call_len_seq (by rfl) T.z_len (by decide +kernel) (pa_cons (pv 1) pa_nil)) pe_int (nomark _)) pe_int pe_non) rfl)
      (pss_one (ps_fld (pv 0) (pe_lst (pa_cons pe_int pa_nil)) rfl))))))), ?_⟩
    have i0 : Ini H0 H q C.Course dx [] [] := ⟨s0, q0, hq, fun q hq => absurd hq (List.not_mem_nil), List.nodup_nil⟩
    refine ⟨_, rfl, _, rfl, q, C.Course, dx, _, rfl, hq, T.cl_Course, T.n_Course_steps, by decide, ?_⟩
    have i1 := i0.fld [("steps", .ref st)]
    refine ⟨_, rfl, _, rfl, q, C.Course, dx, _, rfl, i1.ins, T.cl_Course, T.n_Course_again, by show 1 < 1000; decide, ?_⟩
    have i2 := i1.fld [("steps", .ref st), ("again", .bl false)]
    refine ⟨_, rfl, q, C.Course, dx, _, rfl, i2.ins, T.cl_Course, T.n_Course_place, by show 2 < 1000; decide, ?_⟩
    have i3 := i2.fld [("steps", .ref st), ("again", .bl false), ("place", .int 0)]
    refine ⟨_, rfl, q, C.Course, dx, _, rfl, i3.ins, T.cl_Course, T.n_Course_until, by show 3 < 1000; decide, ?_⟩
    have i4 := i3.fld [("steps", .ref st), ("again", .bl false), ("place", .int 0), ("until", .non)]
    have hst4 := i4.same _ _ hst
    refine ⟨_, rfl, st, _, rfl, .inl (SqL.of hst4), rfl, _, rfl, ?_⟩
    have e0 : (co0 l).ended = if 0 = l.length then some 0 else none := rfl
    refine ite2 (fun c => ?_) (fun c => ?_)
    · have c' : 0 = l.length := by
        have := of_decide_eq_true c
        have := V.int.inj this
        omega
      rw [if_pos c'] at e0
      refine ⟨_, rfl, q, C.Course, dx, _, rfl, i4.ins, T.cl_Course, T.n_Course_ended, by show 4 < 1000; decide, ?_⟩
      have i5 := i4.fld [("steps", .ref st), ("again", .bl false), ("place", .int 0), ("until", .non), ("ended", .int 0)]
      refine ⟨by show 1 ≤ sizeLine; decide, fun a0 h0 => ?_⟩
      have i6 := i5.alloc h0 [.int 0]
      refine ⟨_, rfl, q, C.Course, dx, _, rfl, i6.ins, T.cl_Course, T.n_Course_begun, by show 5 < 1000; decide, ?_⟩
      have i7 := i6.fld [("steps", .ref st), ("again", .bl false), ("place", .int 0), ("until", .non), ("ended", .int 0), ("begun", .ref a0)]
      refine k _ a0 i7.same ?_
      rw [coO, e0]
      exact i7.ins
    · have c' : ¬ 0 = l.length := fun e => c (decide_eq_true (congrArg V.int (by omega)))
      rw [if_neg c'] at e0
      refine ⟨_, rfl, q, C.Course, dx, _, rfl, i4.ins, T.cl_Course, T.n_Course_ended, by show 4 < 1000; decide, ?_⟩
      have i5 := i4.fld [("steps", .ref st), ("again", .bl false), ("place", .int 0), ("until", .non), ("ended", .non)]
      refine ⟨by show 1 ≤ sizeLine; decide, fun a0 h0 => ?_⟩
      have i6 := i5.alloc h0 [.int 0]
      refine ⟨_, rfl, q, C.Course, dx, _, rfl, i6.ins, T.cl_Course, T.n_Course_begun, by show 5 < 1000; decide, ?_⟩
      have i7 := i6.fld [("steps", .ref st), ("again", .bl false), ("place", .int 0), ("until", .non), ("ended", .non), ("begun", .ref a0)]
      refine k _ a0 i7.same ?_
      rw [coO, e0]
      exact i7.ins
end
end Sh

/-! enumerate over a tuple -/
namespace PySem
open Sem (wp)
theorem meets_enum_new1B {v : Value} {o : Obj} {H : Heap → Prop} (B : Begins v o H) :
    Meets (Builtin.«enumerate.__new__» ⟨[.type "enumerate", v], []⟩) (fun _ R s => H s.heap ∧
      R (.ok (.ret (.ref (s.heap.push o).objs.size))) { s with heap := (s.heap.push o).push { cls := .type "enumerate", data := .fields #[.none, .bool false, .ref s.heap.objs.size, rawInt 0, .none, .none] } }) :=
  .of_wp fun prog w A R s h => by
    obtain ⟨hp, g, d, tk, os⟩ := s; obtain ⟨h1, h⟩ := h
    have hsub := sub_enumerate
    have q1 : ∀ {A' : Around} {E : Value → Shared → Prop} {Q : Value → Shared → Prop}, Q (.ref hp.objs.size) ⟨hp.push o, g, d, tk, os⟩ → wpAny (model prog w) A' (pyIter v) Q E ⟨hp, g, d, tk, os⟩ :=
      fun q => B.iter prog w _ _ ⟨hp, g, d, tk, os⟩ _ h1 q
    wp_walk using q1
    refine wpAny_stack_any fun st => wpAny_pure ?_
    split
    · rename_i c _ _ _ _ _
      cases (c == Value.type "enumerate")
      · wp_walk using q1
        exact ⟨_, rfl, h⟩
      · wp_walk using q1
        exact ⟨_, rfl, h⟩
    · wp_walk using q1
      exact ⟨_, rfl, h⟩
section
variable {prog : Program} {w : World} {A : Around} {E : Value → Shared → Prop} {s : Shared}
theorem enum_begins1 {v : Value} {o : Obj} {H : Heap → Prop} {Q : Value → Shared → Prop} (B : Begins v o H) (h1 : H s.heap)
    (h : ∀ h', IsEnum h' (s.heap.objs.size + 1) s.heap.objs.size 0 .none → h'.get? s.heap.objs.size = some o → h'.objs.size = s.heap.objs.size + 2 →
      (∀ b o, s.heap.get? b = some o → h'.get? b = some o) → Q (.ref (s.heap.objs.size + 1)) { s with heap := h' }) :
    wpAny (model prog w) A (call (.type "enumerate") [v]) Q E s := by
  refine callType_new F.called_enumerate (by decide) (F.typeCall_enumerate_1 _) (F.newCall_enumerate_1 _) (fun obj => F.args_object_init_2 obj _) F.entry_enumerate_new
    (meets_enum_new1B B) ⟨h1, ?_⟩
  have hz : (s.heap.push o).objs.size = s.heap.objs.size + 1 := Heap.size_push ..
  show _ ∧ _
  rw [hz]
  have he : IsEnum ((s.heap.push o).push { cls := .type "enumerate", data := .fields #[.none, .bool false, .ref s.heap.objs.size, rawInt 0, .none, .none] }) (s.heap.objs.size + 1) s.heap.objs.size 0 .none := by
    have := Heap.get?_push_size (s.heap.push o) (o := { cls := .type "enumerate", data := .fields #[.none, .bool false, .ref s.heap.objs.size, rawInt 0, .none, .none] }) rfl
    rw [hz] at this; exact this
  refine ⟨⟨_, he, rfl⟩, h _ he (Heap.get?_push_of_some _ (Heap.get?_push_size _ B.free)) (by rw [Heap.size_push, hz]) fun b o x => Heap.get?_push_of_some _ (Heap.get?_push_of_some _ x)⟩
end
end PySem
namespace Sh
open PySem L2 PySem.Spec PyProof.Rows
/-- the tuple at a, each item in a new pair -/
def IteT (K : PySem.W.Frag) (a : Addr) : It :=
  ⟨fun i H => ∃ (xs : List V) (x : V), SqT K H a xs ∧ xs[i]? = some x, fun i H v H' => ∃ T x, v = .ref T ∧ H T = none ∧ H' = upd H T (.tup [.int (i : Nat), x]) ∧ ∀ xs, SqT K H a xs → xs[i]? = some x, fun i H => ∃ xs : List V, SqT K H a xs ∧ xs.length = i⟩
theorem tup_ne {h : Heap} {a it : Addr} {i : Nat} {xs : Array Value} (t : h.IsTuple a xs) (hi : h.IsTupleIter it a i) : a ≠ it := by
  intro e
  subst e
  obtain ⟨o, h1, h2, _⟩ := t
  obtain ⟨o', h1', h2', _⟩ := hi
  rw [h1] at h1'
  cases h1'
  rw [h2] at h2'
  exact absurd (Value.type.inj h2') (by decide)
theorem enum_ne {h : Heap} {a e it : Addr} {c : Int} {old : Value} {xs : Array Value} (t : h.IsTuple a xs) (he : IsEnum h e it c old) : e ≠ a := by
  intro q
  subst q
  obtain ⟨o, h1, h2, _⟩ := t
  rw [he] at h1
  cases h1
  exact absurd (Value.type.inj h2) (by decide)
theorem turn_enumT {P : Program} {w : World} {K : PySem.W.Frag} {elts : List Expr} {kk : Nat} {tpos : Pos} (a e it : Addr) :
    Turn P w K (.Tuple elts kk tpos) (IteT K a) [e, it] e (fun i h => (∃ old, IsEnum h e it ((i : Nat) : Int) old) ∧ h.IsTupleIter it a i ∧ e ≠ it) where
  mem := by simp
  obj := fun i h st b hb => by
    obtain ⟨⟨old, he⟩, ⟨o, ho, hc, hd⟩, _⟩ := st
    have e' : b = e ∨ b = it := by simpa using hb
    rcases e' with z | z
    · rw [z]; exact ⟨_, he, fun v q => nomatch q⟩
    · rw [z]; exact ⟨o, ho, fun v q => by rw [hd] at q; cases q⟩
  keep := fun i h h' st k => let ⟨⟨old, he⟩, hi, hne⟩ := st; ⟨⟨old, k e (by simp) _ he⟩, hi.at fun o q => k it (by simp) o q, hne⟩
  item := by
    intro X hP hw hK hc i pins s σ H E I hf st hg
    subst hP hw hK
    obtain ⟨⟨old, he⟩, hit, hne⟩ := st
    obtain ⟨xs, x, hq, hx⟩ := hg
    obtain ⟨its, rv, p, hz⟩ := I.tuple hq
    have pt : s.heap.IsTuple a its.toArray := p
    obtain ⟨u, hu, ru⟩ := rv.get hx
    have hel : e < s.heap.objs.size := Heap.lt_size he
    have hil : it < s.heap.objs.size := by obtain ⟨_, q, _⟩ := hit; exact Heap.lt_size q
    have hlt : i < its.toArray.size := by
      have := (List.getElem?_eq_some_iff.mp hu).1
      simpa using this
    refine wpAny_pyNext_enum_itemD (Draws.tuple (A := X.A.in1) (I.ok.hd hc) it a (tup_ne pt hit) its.toArray) he ⟨hit, pt⟩ hlt hne (by simp only [List.mem_cons, List.not_mem_nil, or_false, not_or]; exact ⟨hne, enum_ne pt he⟩) fun y h' tk hP ho hit' hT hsz hk => ?_
    have hy : y = u := by
      have h1 : its.toArray[i]? = some u := by simpa using hu
      exact Option.some.inj (hP.symm.trans h1)
    subst hy
    refine ⟨_, rfl, wpAny_letOwnedTupleGo_enum (s := { s with heap := h', toks := tk + 1 }) ho fun h'' he' sb => ?_⟩
    have hT2 : h''.get? s.heap.objs.size = some { cls := .type "tuple", data := .seq #[.int i tk, y] } := (sb.2 _ (Nat.ne_of_gt hel)).trans hT
    have new : ObjOk X.prog X.w (upd H s.heap.objs.size (.tup [.int (i : Nat), x])) h'' s.heap.objs.size (.tup [.int (i : Nat), x]) :=
      ⟨by show 2 ≤ sizeLine; decide, [.int i tk, y], .cons ⟨_, rfl⟩ (.cons ru .nil), ⟨_, hT2, rfl, _, rfl⟩⟩
    have I1 : Inv X pins σ (upd H s.heap.objs.size (.tup [.int (i : Nat), x])) { s with heap := h'', toks := tk + 1 } :=
      I.turnedNew (ch := [e, it]) (fun b ob hb q => (sb.2 b (fun z => hb (by simp [z]))).trans (hk b ob (fun z => hb (by simp [z])) (fun z => hb (by simp [z])) q)) hf (Nat.le_refl _) new
    refine ⟨.ref s.heap.objs.size, _, I1, rfl, ⟨_, x, rfl, I.hok.fresh (Nat.le_refl _), rfl, fun ys hy => by rw [I.tuple_inj hy hq]; exact hx⟩, ⟨⟨y, ?_⟩, hit'.1.at fun o q => (sb.2 it (Ne.symm hne)).trans q, hne⟩, fun b hb => ?_⟩
    · have e1 : ((i + 1 : Nat) : Int) = (i : Int) + 1 := by omega
      rw [e1]; exact he'
    · have hb' : b < s.heap.objs.size := by
        have e' : b = e ∨ b = it := by simpa using hb
        rcases e' with z | z
        · rw [z]; exact hel
        · rw [z]; exact hil
      rw [upd_ne (Nat.ne_of_lt hb')]
      exact (hf b hb).1
  done := by
    intro X hP hw hK hc i pins s σ H E I hf st hg
    subst hP hw hK
    obtain ⟨⟨old, he⟩, hit, hne⟩ := st
    obtain ⟨xs, hq, hx⟩ := hg
    obtain ⟨its, rv, p, hz⟩ := I.tuple hq
    have pt : s.heap.IsTuple a its.toArray := p
    obtain ⟨f0, f1, f2, f3, f4, f5⟩ := hf it (by simp)
    have hl := rv.length
    have hi : i = its.toArray.size := by simp; omega
    exact wpAny_pyNext_enum_endD (Draws.tuple (A := X.A.in1) (I.ok.hd hc) it a (tup_ne pt hit) its.toArray) he ⟨hi ▸ hit, pt⟩ fun h' eb => ⟨rfl, I.turned (t' := s.toks) (fun b o hb q => eb b o hb q) f0 f1 f3 f4 f5⟩
  self := fun A i s Q E st h => let ⟨⟨_, he⟩, _⟩ := st; wpAny_pyIter_enum he h
def iEnumT (K : PySem.W.Frag) (ta : TA) : TI := fun σ H R => ta σ H fun vs H1 => ∃ a xs, vs = [.ref a] ∧ SqT K H1 a xs ∧ R (IteT K a) H1
theorem pi_enumT {X : Cx} {e : Expr} {ta : TA} {p pos tpos : Pos} {elts : List Expr} {kk : Nat} (hg : Gl X "enumerate") (hm : X.mg "enumerate" = none) (ha : PA X [e] ta) (hs : starEach [e] X.env = [(false, eval e X.env)] := by rfl) :
    PI X (.Tuple elts kk tpos) (.Call (.Name "enumerate" p) [e] [] pos) (iEnumT X.K ta) := by
  refine ⟨fun pins s σ H R I h => ?_⟩
  refine Call_ (ld_blt I hg hm boot_enumerate (PyProof.Rows.callWith_type1 (thn (ha.run pos pins s σ H _ I h) fun us s1 ⟨vs, H1, I1, r1, q1⟩ => ?_) hs rfl))
  obtain ⟨a, xs, ex, hq, q⟩ := q1
  subst ex
  cases r1 with
  | cons r rr =>
    cases rr
    cases r
    obtain ⟨its, rv, p', hz⟩ := I1.tuple hq
    have pt : s1.heap.IsTuple a its.toArray := p'
    refine enum_begins1 (begins_tuple a its.toArray) pt fun h' he hit hsz hk => wpAny_pyIter_enum he ?_
    have I2 : Inv X pins σ H1 { s1 with heap := h' } := I1.kept (t' := s1.toks) hk
    refine ⟨s1.heap.objs.size + 1, [s1.heap.objs.size + 1, s1.heap.objs.size], _, _, H1, rfl, I2, turn_enumT a (s1.heap.objs.size + 1) s1.heap.objs.size, ⟨⟨.none, he⟩, ⟨_, hit, rfl, rfl⟩, Nat.succ_ne_self _⟩, fun b hb => ?_, q⟩
    have e' : b = s1.heap.objs.size + 1 ∨ b = s1.heap.objs.size := by simpa using hb
    have hle : s1.heap.objs.size ≤ b := by
      rcases e' with z | z
      · rw [z]; exact Nat.le_add_right _ _
      · rw [z]; exact Nat.le_refl _
    exact I1.fpOk hle (I1.hok.fresh hle)
/-- a loop over enumerate of a tuple -/
theorem for_enumT {K : PySem.W.Frag} {a : Addr} {xs : List V} {g : TG} {tb : TS} {D : Ends} {σ : L2.St} {H : Hp} (Pv : Nat → L2.St → Hp → Prop) (h0 : Pv 0 σ H) (hq : ∀ i σ H, Pv i σ H → SqT K H a xs)
    (hs : ∀ (i : Nat) (x : V) (T : Addr) (σ : L2.St) (H : Hp), xs[i]? = some x → Pv i σ H → H T = none → g (.ref T) σ (upd H T (.tup [.int (i : Nat), x])) fun σ2 H2 => tb { D with nx := Pv (i + 1), ct := Pv (i + 1), bk := D.nx } σ2 H2) (hd : ∀ σ H, Pv xs.length σ H → D.nx σ H) :
    ∃ W : Nat → Nat → L2.St → Hp → Prop, (∃ m, W 0 m σ H) ∧ ∀ i m σ H, W i m σ H →
      ((IteT K a).stop i H ∧ D.nx σ H) ∨ ((IteT K a).go i H ∧ ∃ N : L2.St → Hp → Prop, (∀ σ' H', N σ' H' → ∃ m', m' < m ∧ W (i + 1) m' σ' H') ∧ ∀ v H', (IteT K a).yld i H v H' → g v σ H' fun σ2 H2 => tb { D with nx := N, ct := N, bk := D.nx } σ2 H2) := by
  refine ⟨fun i m σ H => m = xs.length - i ∧ i ≤ xs.length ∧ Pv i σ H, ⟨xs.length, rfl, Nat.zero_le _, h0⟩, ?_⟩
  rintro i m σ H ⟨rfl, hi, p⟩
  have qx := hq i σ H p
  by_cases hlt : i < xs.length
  · have hx : xs[i]? = some xs[i] := List.getElem?_eq_getElem hlt
    refine .inr ⟨⟨xs, xs[i], qx, hx⟩, Pv (i + 1), fun σ' H' q => ⟨xs.length - (i + 1), by omega, rfl, by omega, q⟩, ?_⟩
    rintro v H' ⟨T, x, rfl, hT, rfl, hxx⟩
    have e1 := hxx xs qx
    exact hs i x T σ H e1 p hT
  · have e : i = xs.length := by omega
    subst e
    exact .inl ⟨⟨xs, qx, rfl⟩, hd σ H p⟩
end Sh

namespace Sh
open PySem L2 PySem.Spec PyProof.Rows
/-! ### programs -/
inductive Item where
  | write (a : Option Int)
  | read (a : Option Int)
  | pause (lo hi : Int)
def vA : Option Int → V
  | none => .str "x"
  | some i => .int i
def rowT : Item → List V
  | .write a => [.str "write", vA a]
  | .read a => [.str "read", vA a]
  | .pause lo hi => [.str "pause", .int lo, .int hi]
def AmOk (a : Option Int) : Prop := ∀ n, a = some n → 1 ≤ n ∧ n ≤ 60
def ItemOk : Item → Prop
  | .write a => AmOk a
  | .read a => AmOk a
  | .pause lo hi => 0 ≤ lo ∧ lo ≤ hi ∧ hi ≤ 200
/-- the program l stands at a -/
structure ProgAt (H : Hp) (a : Addr) (vs : List V) (l : List Item) : Prop where
  tup : H a = some (.tup vs)
  rows : Tups H vs (l.map rowT)
theorem ProgAt.same {H H' : Hp} {a : Addr} {vs : List V} {l : List Item} (h : ProgAt H a vs l) (s : Same H H') : ProgAt H' a vs l := ⟨s _ _ h.tup, h.rows.keep' fun _ _ e => s _ _ e⟩
theorem ProgAt.len {H : Hp} {a : Addr} {vs : List V} {l : List Item} (h : ProgAt H a vs l) : vs.length = l.length := by
  have := h.rows.length
  rw [List.length_map] at this
  exact this
def spis_amount (_ : PySem.W.Frag) (_ : AD) : Sp := fun vs H Q _ => ∃ a, vs = [vA a] ∧ AmOk a ∧ Q (.bl true) H
def spis_step (_ : PySem.W.Frag) (_ : AD) : Sp := fun vs H Q _ => ∃ t p, vs = [.ref t] ∧ H t = some (.tup (rowT p)) ∧ ItemOk p ∧ ∀ H', Same H H' → Q (.bl true) H'
def spcheck_program (_ : PySem.W.Frag) (_ : AD) : Sp := fun vs H Q _ => ∃ a rv l, vs = [.ref a] ∧ ProgAt H a rv l ∧ (∀ p ∈ l, ItemOk p) ∧ l.length ≤ 6 ∧ ∀ H', Same H H' → Q .non H'
def spis_size (_ : PySem.W.Frag) (_ : AD) : Sp := fun vs H Q _ => ∃ i : Int, vs = [.int i] ∧ 1 ≤ i ∧ i ≤ 2000 ∧ Q (.bl true) H
def spcheck_size (_ : PySem.W.Frag) (_ : AD) : Sp := fun vs H Q _ => ∃ i : Int, vs = [.int i] ∧ 1 ≤ i ∧ i ≤ 2000 ∧ Q .non H
section
variable {P : Program} {w : World} {K : PySem.W.Frag} {mg : Str → Option Value} {base : Heap} {C : AD}
abbrev sis_amount : Stmt := topS 33
theorem scis_amount : FnScope ["value"] ["value"] (defScope sis_amount) := ⟨rfl, rfl, rfl, by decide +kernel, rfl, by decide +kernel, by decide +kernel⟩
theorem okis_amount {f : Addr} {fd : FuncData} (F : Fun K "is_amount" "is_amount" sis_amount f fd) (T : Txt K mg C)
    (Mis_between : GOk P w K mg base "is_between" 2 ["value", "low", "high"] (spis_between K C)) :
    FnOk P w K mg base CX0 3 f fd ["value"] (spis_amount K C) := by
  obtain ⟨_, _, Gis_between, bis_between, gis_between, kis_between⟩ := Mis_between.ex
  refine F.ok scis_amount (fun vs H Q E h => ?_) (fun cdv A outer s H vs Q E hr h => ?_)
  · obtain ⟨a, rfl, _⟩ := h
    rfl
  · obtain ⟨a, rfl, ok, k⟩ := h
    refine ⟨_, (pss_one (ps_ret (pe_or (pe_call Gis_between (hr.mono (by decide)) (by rfl) gis_between kis_between bis_between .nil pass0 (pa_cons (pv 0) (pa_cons pe_int (pa_cons (pe_gl (by rfl) T.g_MOST_BYTES) pa_nil)))) (pe_one (pe_and (pe_callB call_isi (by rfl) T.z_isinstance (by decide +kernel) (pa_cons (pv 0) (pa_cons (pe_bltn (v := .ty "str") (by rfl) T.z_str (by decide +kernel) rfl) pa_nil))) (pe_one (pe_cmpR op_eq (pv 0) (pe_gl (by rfl) T.g_LETTER) (nomark _)))))))), ?_⟩
    cases a with
    | none =>
      refine ⟨_, rfl, _, 1, 60, rfl, .inr ⟨_, rfl, false, rfl, iteN (by decide) ?_⟩⟩
      exact ⟨_, rfl, .str _, .ty "str", _, _, true, rfl, .ty _, .base (.str _), kit_ty (by decide +kernel), true, rfl, iteY rfl ⟨_, rfl, rfl, k⟩⟩
    | some n =>
      obtain ⟨h1, h2⟩ := ok n rfl
      refine ⟨_, rfl, _, 1, 60, rfl, .inl ⟨n, rfl, _, rfl, iteY ?_ k⟩⟩
      simp [h1, h2]
abbrev sis_step : Stmt := topS 34
theorem scis_step : FnScope ["value"] ["value"] (defScope sis_step) := ⟨rfl, rfl, rfl, by decide +kernel, rfl, by decide +kernel, by decide +kernel⟩
theorem okis_step {f : Addr} {fd : FuncData} (F : Fun K "is_step" "is_step" sis_step f fd) (T : Txt K mg C)
    (Mis_amount : GOk P w K mg base "is_amount" 3 ["value"] (spis_amount K C))
    (Mis_between : GOk P w K mg base "is_between" 2 ["value", "low", "high"] (spis_between K C)) :
    FnOk P w K mg base CX0 4 f fd ["value"] (spis_step K C) := by
  obtain ⟨_, _, Gis_amount, bis_amount, gis_amount, kis_amount⟩ := Mis_amount.ex
  obtain ⟨_, _, Gis_between, bis_between, gis_between, kis_between⟩ := Mis_between.ex
  refine F.ok scis_step (fun vs H Q E h => ?_) (fun cdv A outer s H vs Q E hr h => ?_)
  · obtain ⟨t, p, rfl, _⟩ := h
    rfl
  · obtain ⟨t, p, rfl, ht, ok, k⟩ := h
    refine ⟨_, (pss_cons (ps_if (PW.pt (pw_or (pt_not (pt_val (pe_callB call_isi (by rfl) T.z_isinstance (by decide +kernel) (pa_cons (pv 0) (pa_cons (pe_bltn (v := .ty "tuple") (by rfl) T.z_tuple (by decide +kernel) rfl) pa_nil))))) (pw_or (pt_cmpR op_notIn_seq (pe_callB call_len_seq (by rfl) T.z_len (by decide +kernel) (pa_cons (pv 0) pa_nil)) (pe_tup (pa_cons pe_int (pa_cons pe_int pa_nil))) (by rfl)) (pw_or1 (pt_not (pt_val (pe_callB call_isi (by rfl) T.z_isinstance (by decide +kernel) (pa_cons (pe_ix ix_tup (pv 0) pe_int (fun _ _ => rfl)) (pa_cons (pe_bltn (v := .ty "str") (by rfl) T.z_str (by decide +kernel) rfl) pa_nil))))))))) (pss_one (ps_ret pe_bl)) pss_nil)
      (pss_cons (ps_if (PW.pt (pw_and (pt_cmpR op_eq (pe_ix ix_tup (pv 0) pe_int (fun _ _ => rfl)) pe_str (nomark _)) (pw_and1 (pt_cmpR op_eq (pe_callB call_len_seq (by rfl) T.z_len (by decide +kernel) (pa_cons (pv 0) pa_nil)) pe_int (nomark _))))) (pss_one (ps_ret (pe_and (pe_call Gis_between (hr.mono (by decide)) (by rfl) gis_between kis_between bis_between .nil pass0 (pa_cons (pe_ix ix_tup (pv 0) pe_int (fun _ _ => rfl)) (pa_cons pe_int (pa_cons (pe_gl (by rfl) T.g_MOST_DELAY) pa_nil)))) (pe_one (pe_call Gis_between (hr.mono (by decide)) (by rfl) gis_between kis_between bis_between .nil pass0 (pa_cons (pe_ix ix_tup (pv 0) pe_int (fun _ _ => rfl)) (pa_cons (pe_ix ix_tup (pv 0) pe_int (fun _ _ => rfl)) (pa_cons (pe_gl (by rfl) T.g_MOST_DELAY) pa_nil)))))))) pss_nil)
      (pss_one (ps_ret (pe_and (pe_cmpR op_in_seq (pe_ix ix_tup (pv 0) pe_int (fun _ _ => rfl)) (pe_tup (pa_cons pe_str (pa_cons pe_str pa_nil))) (by rfl)) (pe_and (pe_cmpR op_eq (pe_callB call_len_seq (by rfl) T.z_len (by decide +kernel) (pa_cons (pv 0) pa_nil)) pe_int (nomark _)) (pe_one (pe_call Gis_amount (hr.mono (by decide)) (by rfl) gis_amount kis_amount bis_amount .nil pass0 (pa_cons (pe_ix ix_tup (pv 0) pe_int (fun _ _ => rfl)) pa_nil))))))))), ?_⟩
    have it : ∀ {H' : Hp} {r : Bool}, Same H H' → TyX K H' (.ref t) (.type "tuple") := fun s => .base (.tup (s _ _ ht))
    have s0 : ∀ x, H x = none → Same H (L2.upd H x (.tup [.int 2, .int 3])) := fun x hx => same_upd hx
    have ty : TyX K H (.ref t) (.type "tuple") := .base (.tup ht)
    refine ⟨_, rfl, .ref t, .ty "tuple", _, _, true, rfl, .ty _, ty, kit_ty (by decide +kernel), true, rfl, iteN (by decide) ?_⟩
    cases p with
    | write a =>
      refine ⟨_, rfl, t, _, rfl, .inr (SqT.of ht), by show 2 ≤ sizeLine; decide, fun x hx => ⟨x, _, rfl, .inr (SqT.of upd_same), rfl, rfl, false, rfl, iteN (by decide) ?_⟩⟩
      have s1 := s0 x hx
      have ht1 := s1 _ _ ht
      refine ⟨_, rfl, _, _, _, _, rfl, rfl, SqT.of ht1, rfl, .str _, .ty "str", _, _, true, rfl, .ty _, .base (.str _), kit_ty (by decide +kernel), true, rfl, iteN (by decide) ?_⟩
      refine ⟨_, rfl, _, _, _, _, rfl, rfl, SqT.of ht1, rfl, rfl, false, rfl, iteN (by decide) ?_⟩
      refine ⟨_, rfl, _, _, _, _, rfl, rfl, SqT.of ht1, rfl, by show 2 ≤ sizeLine; decide, fun y hy => ⟨y, _, rfl, .inr (SqT.of upd_same), rfl, rfl, true, rfl, iteY rfl ?_⟩⟩
      have s2 := s1.trans (same_upd hy (o := .tup [.str "write", .str "read"]))
      have ht2 := s2 _ _ ht
      refine ⟨_, rfl, t, _, rfl, .inr (SqT.of ht2), rfl, true, rfl, iteY rfl ?_⟩
      exact ⟨_, rfl, _, _, _, _, rfl, rfl, SqT.of ht2, rfl, a, rfl, ok, k _ s2⟩
    | read a =>
      refine ⟨_, rfl, t, _, rfl, .inr (SqT.of ht), by show 2 ≤ sizeLine; decide, fun x hx => ⟨x, _, rfl, .inr (SqT.of upd_same), rfl, rfl, false, rfl, iteN (by decide) ?_⟩⟩
      have s1 := s0 x hx
      have ht1 := s1 _ _ ht
      refine ⟨_, rfl, _, _, _, _, rfl, rfl, SqT.of ht1, rfl, .str _, .ty "str", _, _, true, rfl, .ty _, .base (.str _), kit_ty (by decide +kernel), true, rfl, iteN (by decide) ?_⟩
      refine ⟨_, rfl, _, _, _, _, rfl, rfl, SqT.of ht1, rfl, rfl, false, rfl, iteN (by decide) ?_⟩
      refine ⟨_, rfl, _, _, _, _, rfl, rfl, SqT.of ht1, rfl, by show 2 ≤ sizeLine; decide, fun y hy => ⟨y, _, rfl, .inr (SqT.of upd_same), rfl, rfl, true, rfl, iteY rfl ?_⟩⟩
      have s2 := s1.trans (same_upd hy (o := .tup [.str "write", .str "read"]))
      have ht2 := s2 _ _ ht
      refine ⟨_, rfl, t, _, rfl, .inr (SqT.of ht2), rfl, true, rfl, iteY rfl ?_⟩
      exact ⟨_, rfl, _, _, _, _, rfl, rfl, SqT.of ht2, rfl, a, rfl, ok, k _ s2⟩
    | pause lo hi =>
      refine ⟨_, rfl, t, _, rfl, .inr (SqT.of ht), by show 2 ≤ sizeLine; decide, fun x hx => ⟨x, _, rfl, .inr (SqT.of upd_same), rfl, rfl, false, rfl, iteN (by decide) ?_⟩⟩
      have s1 := s0 x hx
      have ht1 := s1 _ _ ht
      refine ⟨_, rfl, _, _, _, _, rfl, rfl, SqT.of ht1, rfl, .str _, .ty "str", _, _, true, rfl, .ty _, .base (.str _), kit_ty (by decide +kernel), true, rfl, iteN (by decide) ?_⟩
      refine ⟨_, rfl, _, _, _, _, rfl, rfl, SqT.of ht1, rfl, rfl, true, rfl, iteY rfl ?_⟩
      refine ⟨_, rfl, t, _, rfl, .inr (SqT.of ht1), rfl, true, rfl, iteY rfl ?_⟩
      obtain ⟨h1, h2, h3⟩ := ok
      refine ⟨_, rfl, _, _, _, _, rfl, rfl, SqT.of ht1, rfl, _, 0, 200, rfl, .inl ⟨lo, rfl, true, ?_, iteY rfl ?_⟩⟩
      · simp [h1]; omega
      refine ⟨_, rfl, _, _, _, _, rfl, rfl, SqT.of ht1, rfl, _, rfl, _, _, _, _, rfl, rfl, SqT.of ht1, rfl, _, lo, 200, rfl, .inl ⟨hi, rfl, ?_⟩⟩
      have e : (decide (lo ≤ hi) && decide (hi ≤ 200)) = true := by simp [h2, h3]
      rw [e]
      exact k _ s1
abbrev scheck_program : Stmt := topS 35
theorem sccheck_program : FnScope ["value", "index", "step"] ["value"] (defScope scheck_program) := ⟨rfl, rfl, rfl, by decide +kernel, rfl, by decide +kernel, by decide +kernel⟩
theorem okcheck_program {f : Addr} {fd : FuncData} (F : Fun K "check_program" "check_program" scheck_program f fd) (T : Txt K mg C)
    (Mis_step : GOk P w K mg base "is_step" 4 ["value"] (spis_step K C)) :
    FnOk P w K mg base CX0 5 f fd ["value"] (spcheck_program K C) := by
  obtain ⟨_, _, Gis_step, bis_step, gis_step, kis_step⟩ := Mis_step.ex
  refine F.ok sccheck_program (fun vs H Q E h => ?_) (fun cdv A outer s H vs Q E hr h => ?_)
  · obtain ⟨a, rv, l, rfl, _⟩ := h
    rfl
  · obtain ⟨a, rv, l, rfl, hp, ok, hlen, k⟩ := h
    refine ⟨_, (Evl.pss_cut (ps_if (PW.pt (pw_or (pt_not (pt_val (pe_callB call_isi (by rfl) T.z_isinstance (by decide +kernel) (pa_cons (pv 0) (pa_cons (pe_bltn (v := .ty "tuple") (by rfl) T.z_tuple (by decide +kernel) rfl) pa_nil))))) (pw_or1 (pt_cmpR op_gt (pe_callB call_len_seq (by rfl) T.z_len (by decide +kernel) (pa_cons (pv 0) pa_nil)) (pe_gl (by rfl) T.g_MOST_STEPS) (nomark _))))) (pss_one ps_never) pss_nil)
      (pss_one (ps_for PassesOwn.never rfl (pi_enumT (by rfl) T.z_enumerate (pa_cons (pv 0) pa_nil)) (pg_tup rfl (pgs_cons (pg_name (i := 1) sccheck_program.nd rfl (Or.inl rfl)) (pgs_cons (pg_name (i := 2) sccheck_program.nd rfl (Or.inl rfl)) pgs_nil))) (pss_one (ps_if (pt_not (pt_val (pe_call Gis_step (hr.mono (by decide)) (by rfl) gis_step kis_step bis_step .nil pass0 (pa_cons (pv 2) pa_nil)))) (pss_one ps_never) pss_nil))))), ?_⟩
    have ty : TyX K H (.ref a) (.type "tuple") := .base (.tup hp.tup)
    have hl := hp.len
    refine ⟨fun σ' H' => σ' = [some (.ref a), none, none] ∧ H' = H, ?_, ?_⟩
    · refine ⟨_, rfl, .ref a, .ty "tuple", _, _, true, rfl, .ty _, ty, kit_ty (by decide +kernel), true, rfl, iteN (by decide) ?_⟩
      refine ⟨_, rfl, a, _, rfl, .inr (SqT.of hp.tup), _, _, rfl, rfl, _, rfl, iteN ?_ ⟨rfl, rfl⟩⟩
      simp; omega
    · rintro σ' H' ⟨rfl, rfl⟩
      refine ⟨_, rfl, a, rv, rfl, SqT.of hp.tup, ?_⟩
      refine for_enumT (K := K) (a := a) (xs := rv) (fun i σ H1 => ∃ v1 v2, σ = [some (.ref a), v1, v2] ∧ Same H' H1) ⟨_, _, rfl, Same.refl _⟩ (fun i σ H1 h => ?_) ?_ ?_
      · obtain ⟨_, _, _, s⟩ := h
        exact SqT.of (s _ _ hp.tup)
      · rintro i x T' σ H1 hx ⟨v1, v2, rfl, s⟩ hT
        obtain ⟨t, row, hr, rfl, ht⟩ := hp.rows.get hx
        rw [List.getElem?_map] at hr
        obtain ⟨p, hpl, rfl⟩ : ∃ p, l[i]? = some p ∧ rowT p = row := by
          cases e : l[i]? with
          | none => rw [e] at hr; cases hr
          | some p => rw [e] at hr; exact ⟨p, rfl, Option.some.inj hr⟩
        have s1 := s.trans (same_upd hT (o := .tup [.int (i : Nat), .ref t]))
        refine ⟨T', _, rfl, SqT.of upd_same, rfl, _, _, rfl, _, _, rfl, rfl, ?_⟩
        refine ⟨_, rfl, t, p, rfl, s1 _ _ ht, ok p (List.mem_of_getElem? hpl), fun H2 s2 => ⟨true, rfl, iteN (by decide) ⟨_, _, rfl, s1.trans s2⟩⟩⟩
      · rintro σ H1 ⟨v1, v2, rfl, s⟩
        exact k _ s
abbrev sis_size : Stmt := topS 36
theorem scis_size : FnScope ["value"] ["value"] (defScope sis_size) := ⟨rfl, rfl, rfl, by decide +kernel, rfl, by decide +kernel, by decide +kernel⟩
theorem okis_size {f : Addr} {fd : FuncData} (F : Fun K "is_size" "is_size" sis_size f fd) (T : Txt K mg C)
    (Mis_between : GOk P w K mg base "is_between" 2 ["value", "low", "high"] (spis_between K C)) :
    FnOk P w K mg base CX0 3 f fd ["value"] (spis_size K C) := by
  obtain ⟨_, _, Gis_between, bis_between, gis_between, kis_between⟩ := Mis_between.ex
  refine F.ok scis_size (fun vs H Q E h => ?_) (fun cdv A outer s H vs Q E hr h => ?_)
  · obtain ⟨i, rfl, _⟩ := h
    rfl
  · obtain ⟨i, rfl, h1, h2, k⟩ := h
    refine ⟨_, (pss_one (ps_ret (pe_call Gis_between (hr.mono (by decide)) (by rfl) gis_between kis_between bis_between .nil pass0 (pa_cons (pv 0) (pa_cons pe_int (pa_cons (pe_gl (by rfl) T.g_MOST_X) pa_nil)))))), ?_⟩
    refine ⟨_, rfl, _, 1, 2000, rfl, .inl ⟨i, rfl, ?_⟩⟩
    have e : (decide (1 ≤ i) && decide (i ≤ 2000)) = true := by simp [h1, h2]
    rw [e]
    exact k
abbrev scheck_size : Stmt := topS 37
theorem sccheck_size : FnScope ["value"] ["value"] (defScope scheck_size) := ⟨rfl, rfl, rfl, by decide +kernel, rfl, by decide +kernel, by decide +kernel⟩
theorem okcheck_size {f : Addr} {fd : FuncData} (F : Fun K "check_size" "check_size" scheck_size f fd) (T : Txt K mg C)
    (Mis_size : GOk P w K mg base "is_size" 3 ["value"] (spis_size K C)) :
    FnOk P w K mg base CX0 4 f fd ["value"] (spcheck_size K C) := by
  obtain ⟨_, _, Gis_size, bis_size, gis_size, kis_size⟩ := Mis_size.ex
  refine F.ok sccheck_size (fun vs H Q E h => ?_) (fun cdv A outer s H vs Q E hr h => ?_)
  · obtain ⟨i, rfl, _⟩ := h
    rfl
  · obtain ⟨i, rfl, h1, h2, k⟩ := h
    refine ⟨_, (pss_one (ps_if (pt_not (pt_val (pe_call Gis_size (hr.mono (by decide)) (by rfl) gis_size kis_size bis_size .nil pass0 (pa_cons (pv 0) pa_nil)))) (pss_one ps_never) pss_nil)), ?_⟩
    exact ⟨_, rfl, i, rfl, h1, h2, true, rfl, iteN (by decide) k⟩
end
end Sh

namespace Sh
open PySem L2 PySem.Spec PyProof.Rows
theorem sqT_same {K : PySem.W.Frag} {H H' : Hp} {a : Addr} {xs : List V} (e : Same H H') (h : SqT K H a xs) : SqT K H' a xs := by
  rcases h with h | h
  · rcases h with h | ⟨o, h⟩
    · exact .inl (.inl (e _ _ h))
    · exact .inl (.inr ⟨o, e _ _ h⟩)
  · exact .inr h
theorem lc_rowsT {K : PySem.W.Frag} {a D : Addr} {vs : List V} {rows : List (List V)} {g : TG} {tt : TT} {te : TE} {ws : List Nat} {σ : L2.St} {H1 : Hp} {Qd : Hp → Prop} (gg : V → List V → Option V)
    (hD : H1 D = none) (ha : SqT K H1 a vs) (ht : Tups H1 vs rows) (hz : vs.length ≤ 1000000)
    (turn : ∀ (t : Addr) (row : List V) (H' : Hp) (Yes : V → Hp → Prop) (No : Hp → Prop), V.ref t ∈ vs → row ∈ rows → Same H1 H' → H' t = some (.tup row) → (∀ y H4, Same H' H4 → gg (.ref t) row = some y → Yes y H4) → (∀ H3, Same H' H3 → gg (.ref t) row = none → No H3) →
      g (.ref t) (wipe σ ws) H' fun σ2 H2 => wipe σ2 ws = wipe σ ws ∧ tt σ2 H2 fun b H3 => if b = true then te σ2 H3 Yes else No H3)
    (hd : ∀ H', Same H1 H' → H' D = some (.lst (pick gg vs rows)) → Qd H') :
    ∃ W : Nat → Nat → Hp → Prop, (∃ m, W 0 m (upd H1 D (.lst []))) ∧ ∀ i m H, W i m H →
      ((Itt K a).stop i H ∧ Qd H) ∨ ((Itt K a).go i H ∧ ∃ Nx : Hp → Prop, (∀ H', Nx H' → ∃ m', m' < m ∧ W (i + 1) m' H') ∧ ∀ x H', (Itt K a).yld i H x H' → g x (wipe σ ws) H' fun σ2 H2 => wipe σ2 ws = wipe σ ws ∧ tt σ2 H2 fun b H3 =>
        if b = true then te σ2 H3 fun y H4 => ∃ acc, H4 D = some (.lst acc) ∧ acc.length < sizeLine ∧ Nx (upd H4 D (.lst (acc ++ [y]))) else Nx H3) := by
  have e0 : Same H1 (L2.upd H1 D (.lst [])) := fun b u hb => by rw [upd_ne (ne_of_none hb hD)]; exact hb
  have up : ∀ {H4 : Hp} {l : List V}, Same H1 H4 → Same H1 (L2.upd H4 D (.lst l)) := fun {H4 l} e b u hb => by rw [upd_ne (ne_of_none hb hD)]; exact e b u hb
  refine lc_tup (xs := vs) (fun i H' => Same H1 H' ∧ H' D = some (.lst (pick gg (vs.take i) (rows.take i)))) ⟨e0, by rw [upd_same]; rfl⟩ (fun i H' _ p => sqT_same p.1 ha) (fun i x H' hi p => ?_) (fun H' p => ?_)
  · obtain ⟨t, row, hr, rfl, hrow⟩ := ht.get hi
    have e1 : vs.take (i + 1) = vs.take i ++ [.ref t] := by rw [List.take_add_one, hi]; rfl
    have e2 : rows.take (i + 1) = rows.take i ++ [row] := by rw [List.take_add_one, hr]; rfl
    have hl : (vs.take i).length = (rows.take i).length := by rw [List.length_take, List.length_take, ht.length]
    have e3 : pick gg (vs.take (i + 1)) (rows.take (i + 1)) = pick gg (vs.take i) (rows.take i) ++ (gg (.ref t) row).toList := by
      unfold pick
      rw [e1, e2, List.zip_append hl, List.filterMap_append]
      congr 1
    have hlen : (pick gg (vs.take i) (rows.take i)).length < sizeLine := by
      have h1 := List.length_filterMap_le (fun q : V × List V => gg q.1 q.2) ((vs.take i).zip (rows.take i))
      have h2 : ((vs.take i).zip (rows.take i)).length ≤ 1000000 := by
        rw [List.length_zip, List.length_take]
        omega
      have h3 : (pick gg (vs.take i) (rows.take i)).length ≤ 1000000 := Nat.le_trans h1 h2
      exact Nat.lt_of_le_of_lt h3 (by decide)
    refine turn t row H' _ _ (List.mem_of_getElem? hi) (List.mem_of_getElem? hr) p.1 (p.1 _ _ hrow) (fun y H4 e4 hy => ?_) (fun H3 e4 hn => ?_)
    · refine ⟨_, e4 _ _ p.2, hlen, up (p.1.trans e4), ?_⟩
      rw [upd_same, e3, hy]
      rfl
    · refine ⟨p.1.trans e4, ?_⟩
      rw [e3, hn]
      show _ = some (HO.lst (_ ++ []))
      rw [List.append_nil]
      exact e4 _ _ p.2
  · refine hd H' p.1 ?_
    have := p.2
    rw [List.take_of_length_le (Nat.le_refl _), List.take_of_length_le (Nat.le_of_eq ht.length.symm)] at this
    exact this
def isPau : Item → Bool
  | .pause _ _ => true
  | _ => false
def ggPau (v : V) (row : List V) : Option V := if row[0]? = some (.str "pause") then some v else none
theorem ggPau_eq (v : V) (x : Item) : ggPau v (rowT x) = if isPau x = true then some v else none := by
  cases x with
  | write a =>
    have e : ¬ ((rowT (.write a))[0]? = some (V.str "pause")) := by
      show ¬ (some (V.str "write") = some (V.str "pause"))
      decide
    rw [ggPau, if_neg e]; rfl
  | read a =>
    have e : ¬ ((rowT (.read a))[0]? = some (V.str "pause")) := by
      show ¬ (some (V.str "read") = some (V.str "pause"))
      decide
    rw [ggPau, if_neg e]; rfl
  | pause lo hi =>
    show (if some (V.str "pause") = some (V.str "pause") then some v else none) = some v
    exact if_pos rfl
theorem rowT0 (x : Item) : ∃ s, (rowT x)[0]? = some (V.str s) ∧ (isPau x = true ↔ s = "pause") := by
  cases x with
  | write a => exact ⟨_, rfl, fun h => (nomatch h), fun h => absurd h (by decide)⟩
  | read a => exact ⟨_, rfl, fun h => (nomatch h), fun h => absurd h (by decide)⟩
  | pause lo hi => exact ⟨_, rfl, fun _ => rfl, fun _ => rfl⟩
theorem Tups.app {H : Hp} : ∀ {vs : List V} {rows : List (List V)} {vs' : List V} {rows' : List (List V)}, Tups H vs rows → Tups H vs' rows' → Tups H (vs ++ vs') (rows ++ rows')
  | _, _, _, _, .nil, h => h
  | _, _, _, _, .cons h t, h' => .cons h (Tups.app t h')
/-- the pauses' ticks ts fit the pauses l -/
structure Fits (ts : List Int) (l : List Item) : Prop where
  len : ts.length = l.length
  fit : ∀ (i : Nat) (t lo hi : Int), ts[i]? = some t → l[i]? = some (Item.pause lo hi) → lo ≤ t ∧ t ≤ hi
def sppause_steps (_ : PySem.W.Frag) (_ : AD) : Sp := fun vs H Q _ => ∃ a b va vb la lb, vs = [.ref a, .ref b] ∧ ProgAt H a va la ∧ ProgAt H b vb lb ∧ la.length ≤ 6 ∧ lb.length ≤ 6 ∧
  ∀ H' D rv, Same H H' → H' D = some (.lst rv) → Tups H' rv (((la ++ lb).filter isPau).map rowT) → Q (.ref D) H'
def spcheck_pauses (_ : PySem.W.Frag) (_ : AD) : Sp := fun vs H Q _ => ∃ (t a b : Addr) (ts : List Int) (va vb : List V) (la lb : List Item), vs = [.ref t, .ref a, .ref b] ∧ H t = some (.tup (ts.map V.int)) ∧ ProgAt H a va la ∧ ProgAt H b vb lb ∧ la.length ≤ 6 ∧ lb.length ≤ 6 ∧
  Fits ts ((la ++ lb).filter isPau) ∧ ∀ H', Same H H' → Q .non H'
def opsOf (x : Int) : List Item → List Int → List Op
  | [], _ => []
  | .write a :: l, ts => .write (a.getD x) :: opsOf x l ts
  | .read a :: l, ts => .read (a.getD x) :: opsOf x l ts
  | .pause _ _ :: l, t :: ts => .pause t :: opsOf x l ts
  | .pause _ _ :: l, [] => .pause 0 :: opsOf x l []
def nPau (l : List Item) : Nat := (l.filter isPau).length
def spplain_steps (K : PySem.W.Frag) (_ : AD) : Sp := fun vs H Q _ => ∃ p x tk va l ts, vs = [.ref p, .int x, .ref tk] ∧ ProgAt H p va l ∧ (SqL K H tk (ts.map V.int) ∨ SqT K H tk (ts.map V.int)) ∧ nPau l ≤ ts.length ∧ l.length ≤ 6 ∧
  ∀ H' T F r fv, H F = none → Same H H' → H' T = some (.tup [.ref F, .ref r]) → H' F = some (.lst fv) → Tups H' fv ((opsOf x l ts).map rowO) → H' r = some (.lst ((ts.drop (nPau l)).map V.int)) → Q (.ref T) H'
theorem cut1 (l : List V) : cutV l (some 1) none = l.drop 1 := by
  cases l with
  | nil => rfl
  | cons a l =>
    have e1 : HT.sIx (a :: l).length 0 (some 1) = 1 := by
      show _ = 1
      simp [HT.sIx]
      try omega
    have e2 : HT.sIx (a :: l).length (a :: l).length none = (a :: l).length := rfl
    unfold cutV
    rw [e1, e2]
    show ((a :: l).drop 1).take ((a :: l).length - 1) = (a :: l).drop 1
    exact List.take_of_length_le (by simp)
section
variable {P : Program} {w : World} {K : PySem.W.Frag} {mg : Str → Option Value} {base : Heap} {C : AD}
abbrev spause_steps : Stmt := topS 38
theorem scpause_steps : FnScope ["one", "other", "step"] ["one", "other"] (defScope spause_steps) := ⟨rfl, rfl, rfl, by decide +kernel, rfl, by decide +kernel, by decide +kernel⟩
theorem okpause_steps {f : Addr} {fd : FuncData} (F : Fun K "pause_steps" "pause_steps" spause_steps f fd) (T : Txt K mg C) :
    FnOk P w K mg base CX0 1 f fd ["one", "other"] (sppause_steps K C) := by
  refine F.ok scpause_steps (fun vs H Q E h => ?_) (fun cdv A outer s H vs Q E hr h => ?_)
  · obtain ⟨a, b, va, vb, la, lb, rfl, _⟩ := h
    rfl
  · obtain ⟨a, b, va, vb, la, lb, rfl, ha, hb, l1, l2, k⟩ := h
    refine ⟨_, (pss_one (ps_ret (pe_lc (own := [("step", 2)]) rfl scpause_steps.nd (pi_tup (pe_tup (StX.pa_star (pv 0) (StX.pa_star (pv 1) pa_nil)))) (blkOk_by (N := ["one", "other", "step"]) (sc := defScope spause_steps) (by decide +kernel)) (fun _ _ _ _ _ => by exact (pg_name (i := 2) scpause_steps.nd rfl (Or.inl rfl))) (fun _ _ _ _ _ => by exact (pts_one (pt_cmpR op_eq (pe_ix (ix_tupK (K := K) rfl) (pv 2) pe_int (fun _ _ => rfl)) pe_str (nomark _)))) (fun _ _ _ _ _ => by exact (pv 2))))), ?_⟩
    have e1 := ha.len
    have e2 := hb.len
    refine ⟨_, rfl, a, va, rfl, .inl (SqT.of ha.tup), _, rfl, b, vb, rfl, .inl (SqT.of hb.tup), ?_⟩
    have z : (va ++ (vb ++ [])).length ≤ 12 := by simp; omega
    refine ⟨Nat.le_trans z (by decide), fun u hu => ⟨u, rfl, ⟨_, SqT.of upd_same⟩, fun D hD => ?_⟩⟩
    have s1 : Same H (L2.upd H u (.tup (va ++ (vb ++ [])))) := same_upd hu
    have ht : Tups (L2.upd H u (.tup (va ++ (vb ++ [])))) (va ++ (vb ++ [])) ((la ++ lb).map rowT) := by
      have hz : va ++ vb = va ++ (vb ++ []) := by rw [List.append_nil]
      rw [List.map_append]
      exact (congrArg (fun l => Tups (L2.upd H u (.tup (va ++ (vb ++ [])))) l (la.map rowT ++ lb.map rowT)) hz).mp ((ha.same s1).rows.app (hb.same s1).rows)
    refine lc_rowsT (K := K) ggPau hD (SqT.of upd_same) ht (Nat.le_trans z (by decide)) (fun y row H' Yes No hv hr e ht hy hn => ?_) (fun H2 e2 hD2 => ?_)
    · obtain ⟨x, hx, rfl⟩ := List.mem_map.mp hr
      obtain ⟨q, hq1, hq2⟩ := rowT0 x
      have h0 : atI (rowT x) 0 = some (V.str q) := by cases x <;> exact hq1
      refine ⟨rfl, _, rfl, y, _, _, _, rfl, rfl, SqT.of ht, h0, rfl, _, rfl, ?_⟩
      refine ite2 (fun c => ?_) (fun c => ?_)
      · have c' : q = "pause" := V.str.inj (of_decide_eq_true c)
        exact ⟨_, rfl, hy _ _ (Same.refl _) (by rw [ggPau_eq, if_pos (hq2.mpr c')])⟩
      · have c' : ¬ q = "pause" := fun e => c (decide_eq_true (congrArg V.str e))
        exact hn _ (Same.refl _) (by rw [ggPau_eq, if_neg fun e => c' (hq2.mp e)])
    · exact k _ D _ (s1.trans e2) hD2 ((pick_filter ggPau_eq ht).keep' fun _ _ e => e2 _ _ e)
abbrev scheck_pauses : Stmt := topS 39
theorem sccheck_pauses : FnScope ["value", "one", "other", "steps", "index", "ticks"] ["value", "one", "other"] (defScope scheck_pauses) := ⟨rfl, rfl, rfl, by decide +kernel, rfl, by decide +kernel, by decide +kernel⟩
theorem okcheck_pauses {f : Addr} {fd : FuncData} (F : Fun K "check_pauses" "check_pauses" scheck_pauses f fd) (T : Txt K mg C)
    (Mis_between : GOk P w K mg base "is_between" 2 ["value", "low", "high"] (spis_between K C))
    (Mpause_steps : GOk P w K mg base "pause_steps" 1 ["one", "other"] (sppause_steps K C)) :
    FnOk P w K mg base CX0 3 f fd ["value", "one", "other"] (spcheck_pauses K C) := by
  obtain ⟨_, _, Gis_between, bis_between, gis_between, kis_between⟩ := Mis_between.ex
  obtain ⟨_, _, Gpause_steps, bpause_steps, gpause_steps, kpause_steps⟩ := Mpause_steps.ex
  refine F.ok sccheck_pauses (fun vs H Q E h => ?_) (fun cdv A outer s H vs Q E hr h => ?_)
  · obtain ⟨t, a, b, ts, va, vb, la, lb, rfl, _⟩ := h
    rfl
  · obtain ⟨t, a, b, ts, va, vb, la, lb, rfl, htk, ha, hb, l1, l2, fit, k⟩ := h
    refine ⟨_, (pss_cons (ps_set (i := 3) sccheck_pauses.nd rfl (Or.inl rfl) (pe_call Gpause_steps (hr.mono (by decide)) (by rfl) gpause_steps kpause_steps bpause_steps .nil pass0 (pa_cons (pv 1) (pa_cons (pv 2) pa_nil))))
      (Evl.pss_cut (ps_if (PW.pt (pw_or (pt_not (pt_val (pe_callB call_isi (by rfl) T.z_isinstance (by decide +kernel) (pa_cons (pv 0) (pa_cons (pe_bltn (v := .ty "tuple") (by rfl) T.z_tuple (by decide +kernel) rfl) pa_nil))))) (pw_or1 (pt_cmpR op_ne (pe_callB call_len_seq (by rfl) T.z_len (by decide +kernel) (pa_cons (pv 0) pa_nil)) (pe_callB call_len_seq (by rfl) T.z_len (by decide +kernel) (pa_cons (pv 3) pa_nil)) (nomark _))))) (pss_one ps_never) pss_nil)
      (pss_one (ps_for PassesOwn.never rfl (pi_enumT (by rfl) T.z_enumerate (pa_cons (pv 0) pa_nil)) (pg_tup rfl (pgs_cons (pg_name (i := 4) sccheck_pauses.nd rfl (Or.inl rfl)) (pgs_cons (pg_name (i := 5) sccheck_pauses.nd rfl (Or.inl rfl)) pgs_nil))) (pss_one (ps_if (pt_not (pt_val (pe_call Gis_between (hr.mono (by decide)) (by rfl) gis_between kis_between bis_between .nil pass0 (pa_cons (pv 5) (pa_cons (pe_ix ix_tup (pe_ix ix_list (pv 3) (pv 4) (fun _ _ => rfl)) pe_int (fun _ _ => rfl)) (pa_cons (pe_ix ix_tup (pe_ix ix_list (pv 3) (pv 4) (fun _ _ => rfl)) pe_int (fun _ _ => rfl)) pa_nil)))))) (pss_one ps_never) pss_nil)))))), ?_⟩
    refine ⟨_, rfl, _, rfl, a, b, va, vb, la, lb, rfl, ha, hb, l1, l2, fun H1 D rv s1 hD hrv => ?_⟩
    have lrv : rv.length = ts.length := by
      have := hrv.length
      rw [List.length_map] at this
      rw [this, fit.len]
    have ht1 := s1 _ _ htk
    have ty : TyX K H1 (.ref t) (.type "tuple") := .base (.tup ht1)
    refine ⟨fun σ' H' => σ' = [some (.ref t), some (.ref a), some (.ref b), some (.ref D), none, none] ∧ H' = H1, ?_, ?_⟩
    · refine ⟨_, rfl, .ref t, .ty "tuple", _, _, true, rfl, .ty _, ty, kit_ty (by decide +kernel), true, rfl, iteN (by decide) ?_⟩
      refine ⟨_, rfl, t, _, rfl, .inr (SqT.of ht1), _, rfl, D, _, rfl, .inl (SqL.of hD), rfl, _, rfl, iteN ?_ ⟨rfl, rfl⟩⟩
      simp [lrv]
    · rintro σ' H' ⟨rfl, rfl⟩
      refine ⟨_, rfl, t, _, rfl, SqT.of ht1, ?_⟩
      refine for_enumT (K := K) (a := t) (xs := ts.map V.int) (fun i σ H2 => ∃ v1 v2, σ = [some (.ref t), some (.ref a), some (.ref b), some (.ref D), v1, v2] ∧ Same H' H2) ⟨_, _, rfl, Same.refl _⟩ (fun i σ H2 h => ?_) ?_ ?_
      · obtain ⟨_, _, _, s⟩ := h
        exact SqT.of (s _ _ ht1)
      · rintro i x T' σ H2 hx ⟨v1, v2, rfl, s⟩ hT
        rw [List.getElem?_map] at hx
        obtain ⟨tv, htv, rfl⟩ : ∃ tv, ts[i]? = some tv ∧ V.int tv = x := by
          cases e : ts[i]? with
          | none => rw [e] at hx; cases hx
          | some p => rw [e] at hx; exact ⟨p, rfl, Option.some.inj hx⟩
        have hi : i < rv.length := by rw [lrv]; exact (List.getElem?_eq_some_iff.mp htv).1
        obtain ⟨u, row, hrow, hu, htu⟩ := hrv.get (List.getElem?_eq_getElem hi)
        rw [List.getElem?_map] at hrow
        obtain ⟨it, hit, rfl⟩ : ∃ it, ((la ++ lb).filter isPau)[i]? = some it ∧ rowT it = row := by
          cases e : ((la ++ lb).filter isPau)[i]? with
          | none => rw [e] at hrow; cases hrow
          | some p => rw [e] at hrow; exact ⟨p, rfl, Option.some.inj hrow⟩
        have hpau : isPau it = true := (List.mem_filter.mp (List.mem_of_getElem? hit)).2
        obtain ⟨lo, hi', rfl⟩ : ∃ lo hi, it = .pause lo hi := by
          cases it with
          | write a => cases hpau
          | read a => cases hpau
          | pause lo hi => exact ⟨_, _, rfl⟩
        obtain ⟨q1, q2⟩ := fit.fit i tv lo hi' htv hit
        have s2 := s.trans (same_upd hT (o := .tup [.int (i : Nat), .int tv]))
        have hD2 := s2 _ _ hD
        have hu2 := s2 _ _ htu
        have hrvi : atI rv ((i : Nat) : Int) = some (.ref u) := by
          rw [atI_nat]
          rw [List.getElem?_eq_getElem hi, hu]
        refine ⟨T', _, rfl, SqT.of upd_same, rfl, _, _, rfl, _, _, rfl, rfl, ?_⟩
        refine ⟨_, rfl, _, rfl, _, rfl, D, rv, _, _, rfl, rfl, SqL.of hD2, hrvi, u, _, _, _, rfl, rfl, SqT.of hu2, rfl, _, rfl, _, rfl, D, rv, _, _, rfl, rfl, SqL.of hD2, hrvi, u, _, _, _, rfl, rfl, SqT.of hu2, rfl, _, lo, hi', rfl, .inl ⟨tv, rfl, _, rfl, iteN ?_ ⟨_, _, rfl, s2⟩⟩⟩
        simp [q1, q2]
      · rintro σ H2 ⟨v1, v2, rfl, s⟩
        exact k _ (s1.trans s)
end
end Sh

namespace Sh
open PySem L2 PySem.Spec PyProof.Rows
theorem nPau_snoc (l : List Item) (it : Item) : nPau (l ++ [it]) = nPau l + nPau [it] := by
  unfold nPau; rw [List.filter_append, List.length_append]
theorem opsOf_snoc (x : Int) (it : Item) : ∀ (l : List Item) (ts : List Int), opsOf x (l ++ [it]) ts = opsOf x l ts ++ opsOf x [it] (ts.drop (nPau l))
  | [], ts => rfl
  | .write a :: l, ts => by
    show Op.write _ :: opsOf x (l ++ [it]) ts = Op.write _ :: (opsOf x l ts ++ _)
    rw [opsOf_snoc x it l ts]; rfl
  | .read a :: l, ts => by
    show Op.read _ :: opsOf x (l ++ [it]) ts = Op.read _ :: (opsOf x l ts ++ _)
    rw [opsOf_snoc x it l ts]; rfl
  | .pause lo hi :: l, [] => by
    show Op.pause _ :: opsOf x (l ++ [it]) [] = Op.pause _ :: (opsOf x l [] ++ _)
    rw [opsOf_snoc x it l [], List.drop_nil, List.drop_nil]
  | .pause lo hi :: l, t :: ts => by
    show Op.pause _ :: opsOf x (l ++ [it]) ts = Op.pause _ :: (opsOf x l ts ++ _)
    rw [opsOf_snoc x it l ts]; rfl
/-- a step that is no pause -/
theorem noPau (x : Int) (it : Item) (h : isPau it = false) : ∃ (q : Str) (a : Option Int) (o : Op), rowT it = [.str q, vA a] ∧ (∀ ts, opsOf x [it] ts = [o]) ∧ rowO o = [.str q, .int (a.getD x)] ∧ ¬ q = "pause" ∧ nPau [it] = 0 := by
  cases it with
  | write a => exact ⟨_, a, .write (a.getD x), rfl, fun _ => rfl, rfl, by decide, rfl⟩
  | read a => exact ⟨_, a, .read (a.getD x), rfl, fun _ => rfl, rfl, by decide, rfl⟩
  | pause lo hi => cases h
section
variable {P : Program} {w : World} {K : PySem.W.Frag} {mg : Str → Option Value} {base : Heap} {C : AD}
abbrev splain_steps : Stmt := topS 41
theorem scplain_steps : FnScope ["program", "x", "ticks", "found", "left", "step"] ["program", "x", "ticks"] (defScope splain_steps) := ⟨rfl, rfl, rfl, by decide +kernel, rfl, by decide +kernel, by decide +kernel⟩
theorem okplain_steps {f : Addr} {fd : FuncData} (F : Fun K "plain_steps" "plain_steps" splain_steps f fd) (T : Txt K mg C) :
    FnOk P w K mg base CX0 1 f fd ["program", "x", "ticks"] (spplain_steps K C) := by
  refine F.ok scplain_steps (fun vs H Q E h => ?_) (fun cdv A outer s H vs Q E hr h => ?_)
  · obtain ⟨p, x, tk, va, l, ts, rfl, _⟩ := h
    rfl
  · obtain ⟨p, x, tk, va, l, ts, rfl, hp, htk, hn, hlen, k⟩ := h
    refine ⟨_, (pss_cons (ps_par (i := 3) (j := 4) (by rfl) scplain_steps.nd rfl rfl (by decide) rfl rfl (pa_cons (pe_lst pa_nil) (pa_cons (pe_callTy call_list_of (by rfl) T.z_list (by decide +kernel) (pa_cons (pv 2) pa_nil)) pa_nil)) (by rfl))
      (pss_cons (ps_for PassesOwn.never rfl (pi_tup (pv 0)) (pg_name (i := 5) scplain_steps.nd rfl (Or.inl rfl)) (pss_one (ps_if (pt_cmpR op_eq (pe_ix ix_tup (pv 5) pe_int (fun _ _ => rfl)) pe_str (nomark _)) (pss_cons (ps_expr (pe_bm PySem.F.plainAttrs_list PySem.F.slot_list_append PySem.F.type_list_append mt_append (pv 3) (pa_cons (pe_tup (pa_cons pe_str (pa_cons (pe_ix ix_list (pv 4) pe_int (fun _ _ => rfl)) pa_nil))) pa_nil)))
      (pss_one (ps_set (i := 4) scplain_steps.nd rfl (Or.inl rfl) (pe_slice sl_list (pv 4) (po_some pe_int) po_none)))) (pss_one (ps_expr (pe_bm PySem.F.plainAttrs_list PySem.F.slot_list_append PySem.F.type_list_append mt_append (pv 3) (pa_cons (pe_tup (pa_cons (pe_ix ix_tup (pv 5) pe_int (fun _ _ => rfl)) (pa_cons (pe_ifExp (pt_cmpR op_eq (pe_ix ix_tup (pv 5) pe_int (fun _ _ => rfl)) (pe_gl (by rfl) T.g_LETTER) (nomark _)) (pv 1) (pe_ix ix_tup (pv 5) pe_int (fun _ _ => rfl))) pa_nil))) pa_nil)))))))
      (pss_one (ps_ret (pe_tup (pa_cons (pv 3) (pa_cons (pv 4) pa_nil))))))), ?_⟩
    have lva := hp.len
    -- found, left = [], list(ticks)
    refine ⟨by show 0 ≤ sizeLine; decide, fun F hF => ?_⟩
    have s1 : Same H (L2.upd H F (.lst [])) := same_upd hF
    refine ⟨_, rfl, tk, ts.map V.int, rfl, htk.imp (fun h => Same.seq s1 h) (fun h => sqT_same s1 h), fun r0 hr0 => ⟨_, _, rfl, ?_⟩⟩
    have nF : F ≠ r0 := ne_of_none upd_same hr0
    have s2 := s1.trans (same_upd hr0 (o := .lst (ts.map V.int)))
    refine ⟨_, rfl, p, rfl, ⟨va, SqT.of (s2 _ _ hp.tup)⟩, ?_⟩
    refine for_tup (K := K) (a := p) (xs := va) (fun i σ H1 => ∃ r fv v5, σ = [some (.ref p), some (.int x), some (.ref tk), some (.ref F), some (.ref r), v5] ∧ Same H H1 ∧ F ≠ r ∧ fv.length = i ∧ H1 F = some (.lst fv) ∧
        Tups H1 fv ((opsOf x (l.take i) ts).map rowO) ∧ H1 r = some (.lst ((ts.drop (nPau (l.take i))).map V.int)))
      ⟨r0, [], none, rfl, s2, nF, rfl, by rw [upd_ne nF]; exact upd_same, .nil, upd_same⟩ (fun i σ H1 _ h => ?_) ?_ ?_
    · obtain ⟨_, _, _, _, s, _⟩ := h
      exact SqT.of (s _ _ hp.tup)
    · rintro i y σ H1 hy ⟨r, fv, v5, rfl, s, nF, lfv, hF1, hfv, hr1⟩
      obtain ⟨t, row, hrow, rfl, ht⟩ := hp.rows.get hy
      rw [List.getElem?_map] at hrow
      obtain ⟨it, hit, rfl⟩ : ∃ it, l[i]? = some it ∧ rowT it = row := by
        cases e : l[i]? with
        | none => rw [e] at hrow; cases hrow
        | some p => rw [e] at hrow; exact ⟨p, rfl, Option.some.inj hrow⟩
      have ht1 := s _ _ ht
      have tk1 : l.take (i + 1) = l.take i ++ [it] := by rw [List.take_add_one, hit]; rfl
      have li : i < va.length := (List.getElem?_eq_some_iff.mp hy).1
      have fvs : fv.length < sizeLine := by rw [lfv]; exact big_line (by omega)
      cases hpau : isPau it with
      | false =>
        obtain ⟨q, a, o, e1, e2, e3, e4, e5⟩ := noPau x it hpau
        rw [e1] at ht1
        refine ⟨_, rfl, t, _, _, _, rfl, rfl, SqT.of ht1, rfl, rfl, _, rfl, iteN (by simp only [decide_eq_true_eq]; exact fun e => e4 (V.str.inj e)) ?_⟩
        have fin : ∀ H2, Same H1 H2 → ∀ T, H1 T = none → H2 = L2.upd H1 T (.tup [.str q, .int (a.getD x)]) → ∃ r' fv' v5', [some (V.ref p), some (.int x), some (.ref tk), some (.ref F), some (.ref r), some (.ref t)] = [some (V.ref p), some (.int x), some (.ref tk), some (.ref F), some (.ref r'), v5'] ∧ Same H (L2.upd H2 F (.lst (fv ++ [.ref T]))) ∧ F ≠ r' ∧ fv'.length = i + 1 ∧ (L2.upd H2 F (.lst (fv ++ [.ref T]))) F = some (.lst fv') ∧
            Tups (L2.upd H2 F (.lst (fv ++ [.ref T]))) fv' ((opsOf x (l.take (i + 1)) ts).map rowO) ∧ (L2.upd H2 F (.lst (fv ++ [.ref T]))) r' = some (.lst ((ts.drop (nPau (l.take (i + 1)))).map V.int)) := by
          intro H2 s12 T hT e
          have hT2 : H2 T = some (.tup [.str q, .int (a.getD x)]) := by rw [e]; exact upd_same
          refine ⟨r, fv ++ [.ref T], _, rfl, Same.upd0 (s.trans s12) hF, nF, by simp [lfv], upd_same, ?_, ?_⟩
          · rw [tk1, opsOf_snoc, e2, List.map_append]
            have k1 : KT H2 (L2.upd H2 F (.lst (fv ++ [.ref T]))) := KT.lst (s12 _ _ hF1)
            refine ((hfv.keep' fun _ _ e => s12 _ _ e).app (.cons ?_ .nil)).keep k1
            rw [e3]; exact hT2
          · rw [upd_ne nF.symm, tk1, nPau_snoc, e5]
            exact s12 _ _ hr1
        cases a with
        | none =>
          refine ⟨_, rfl, .inl ⟨rfl, _, SqL.of hF1⟩, _, rfl, t, _, _, _, rfl, rfl, SqT.of ht1, rfl, _, rfl, t, _, _, _, rfl, rfl, SqT.of ht1, rfl, rfl, true, rfl, iteY rfl ?_⟩
          refine ⟨_, rfl, by show 2 ≤ sizeLine; decide, fun T hT => ⟨F, fv, _, rfl, rfl, ?_, fvs, ?_⟩⟩
          · rw [upd_ne (ne_of_none hF1 hT)]; exact hF1
          · exact fin _ (same_upd hT) T hT rfl
        | some n =>
          refine ⟨_, rfl, .inl ⟨rfl, _, SqL.of hF1⟩, _, rfl, t, _, _, _, rfl, rfl, SqT.of ht1, rfl, _, rfl, t, _, _, _, rfl, rfl, SqT.of ht1, rfl, rfl, false, rfl, iteN (by decide) ?_⟩
          refine ⟨_, rfl, _, _, _, _, rfl, rfl, SqT.of ht1, rfl, by show 2 ≤ sizeLine; decide, fun T hT => ⟨F, fv, _, rfl, rfl, ?_, fvs, ?_⟩⟩
          · rw [upd_ne (ne_of_none hF1 hT)]; exact hF1
          · exact fin _ (same_upd hT) T hT rfl
      | true =>
        obtain ⟨lo, hi', rfl⟩ : ∃ lo hi, it = .pause lo hi := by
          cases it with
          | write a => cases hpau
          | read a => cases hpau
          | pause lo hi => exact ⟨_, _, rfl⟩
        have nn : nPau (l.take i) < ts.length := by
          have e : nPau (l.take (i + 1)) = nPau (l.take i) + 1 := by rw [tk1, nPau_snoc]; rfl
          have h2 : nPau (l.take (i + 1)) ≤ nPau l := ((List.take_sublist _ _).filter _).length_le
          omega
        obtain ⟨t0, rest, hd⟩ : ∃ t0 rest, ts.drop (nPau (l.take i)) = t0 :: rest := by
          cases e : ts.drop (nPau (l.take i)) with
          | nil =>
            have := congrArg List.length e
            rw [List.length_drop] at this
            simp at this; omega
          | cons a b => exact ⟨_, _, rfl⟩
        rw [hd] at hr1
        have hrest : rest = ts.drop (nPau (l.take (i + 1))) := by
          have e : nPau (l.take (i + 1)) = nPau (l.take i) + 1 := by rw [tk1, nPau_snoc]; rfl
          rw [e, ← List.drop_drop, hd]; rfl
        refine ⟨_, rfl, t, _, _, _, rfl, rfl, SqT.of ht1, rfl, rfl, true, rfl, iteY rfl ?_⟩
        refine ⟨_, rfl, .inl ⟨rfl, _, SqL.of hF1⟩, _, rfl, r, _, _, _, rfl, rfl, SqL.of hr1, at0 _ _, by show 2 ≤ sizeLine; decide, fun T hT => ⟨F, fv, _, rfl, rfl, ?_, fvs, ?_⟩⟩
        · rw [upd_ne (ne_of_none hF1 hT)]; exact hF1
        have s12 : Same H1 (L2.upd H1 T (.tup [.str "pause", .int t0])) := same_upd hT
        have hr2 : (L2.upd (L2.upd H1 T (.tup [.str "pause", .int t0])) F (.lst (fv ++ [.ref T]))) r = some (.lst ((t0 :: rest).map V.int)) := by
          rw [upd_ne nF.symm]; exact s12 _ _ hr1
        refine ⟨_, rfl, _, rfl, r, _, rfl, SqL.of hr2, fun r' hr' => ?_⟩
        rw [cut1]
        have hF2 : (L2.upd (L2.upd H1 T (.tup [.str "pause", .int t0])) F (.lst (fv ++ [.ref T]))) F = some (.lst (fv ++ [.ref T])) := upd_same
        have nF' : F ≠ r' := ne_of_none hF2 hr'
        have s23 := same_upd hr' (o := .lst (((t0 :: rest).map V.int).drop 1))
        have k1 : KT (L2.upd H1 T (.tup [.str "pause", .int t0])) (L2.upd (L2.upd H1 T (.tup [.str "pause", .int t0])) F (.lst (fv ++ [.ref T]))) := KT.lst (s12 _ _ hF1)
        refine ⟨r', fv ++ [.ref T], _, rfl, (Same.upd0 (s.trans s12) hF).trans s23, nF', by simp [lfv], s23 _ _ hF2, ?_, ?_⟩
        · rw [tk1, opsOf_snoc, hd, List.map_append]
          exact (((hfv.keep' fun _ _ e => s12 _ _ e).app (.cons upd_same .nil)).keep k1).keep' fun _ _ e => s23 _ _ e
        · rw [upd_same, ← hrest]; rfl
    · rintro σ H1 ⟨r, fv, v5, rfl, s, nF, lfv, hF1, hfv, hr1⟩
      rw [lva, List.take_of_length_le (Nat.le_refl _)] at hfv hr1
      refine ⟨_, rfl, _, rfl, by show 2 ≤ sizeLine; decide, fun T hT => ?_⟩
      have s3 := same_upd hT (o := .tup [.ref F, .ref r])
      exact k _ T F r fv hF (s.trans s3) upd_same (s3 _ _ hF1) (hfv.keep' fun _ _ e => s3 _ _ e) (s3 _ _ hr1)
end
end Sh

/-! sorted by a lambda that cuts a tuple -/
namespace Sh
open PySem L2 PySem.Spec PyProof.Rows LamX
section
variable {prog : Program} {w : World} {A : Around} {s : Shared}
/-- the lambda runs: a new tuple of the first two -/
theorem key_run {f c' t : Addr} {pm ctv : Value} {qual : Str} {params : Arguments} {scope : Scope} {p1 p2 p3 p4 : Pos} {j : Nat} {its : Array Value}
    (hf : s.heap.get? f = some (PySem.W.kla_obj "<lambda>" qual params (.Subscript (.Name "piece" p1) (.Slice none (some (.Constant (.int 2) j p2)) none p3) p4) scope [] pm c' ctv))
    (hcode : s.heap.CodeRec (.ref c') qual) (hlim : s.heap.NoLimit) (hroom : A.depth < recursionLimit) (hk : scope.kind = .function) (hco : scope.isCoroutine = false) (hgen : scope.isGenerator = false)
    (hloc : scope.names.lookup ("piece" : Str) = some .local) (hcell : ∀ y ∈ scope.names, y.2 ≠ .cell)
    (hbind : ∀ v, bindArgs (PySem.W.kla_fn "<lambda>" qual params (.Subscript (.Name "piece" p1) (.Slice none (some (.Constant (.int 2) j p2)) none p3) p4) scope [] pm (.ref c') ctv) ⟨[v], []⟩ = pure [(("piece" : Str), v)])
    (ht : IsTup s.heap t its) (hz : 2 < its.size) (hz' : its.size ≤ sizeLine) :
    wpAny (model prog w) A (call (.ref f) [.ref t]) (fun v s2 => ∃ h' tk T, v = .ref T ∧ s2 = { s with heap := h', toks := tk } ∧ (∀ b o, s.heap.get? b = some o → h'.get? b = some o) ∧ IsTup h' T (its.toList.take 2).toArray) (fun _ _ => False) s := by
  refine wpAny_call ?_
  refine PySem.W.kla_callFunE hroom hf rfl hco hgen rfl hcode ?_
  rw [hbind]
  refine wpAny_pure (wpAny_newFunctionEnv hcell (fun y hy => ?_) (fun h₁ hns hsb => ⟨hlim.fresh _ hsb, ?_⟩) hk)
  · rw [List.mem_singleton.mp hy]; exact hloc
  have kp : ∀ b o, s.heap.get? b = some o → h₁.get? b = some o := fun b o e => hsb.extBut b o (Nat.ne_of_lt (Heap.lt_size e)) (Heap.get?_push_of_some _ e)
  obtain ⟨o, ho1, ho2⟩ := id ht
  have ht1 : IsTup h₁ t its := ⟨o, kp _ _ ho1, ho2⟩
  refine PySem.W.kla_codeExpr ?_
  refine Subscript_ (wpAny_Name (wpAny_loadName_local hk hloc hns (v := .ref t) rfl ?_))
  refine wpAny_Slice (wpAny_evalPart_none (wpAny_evalPart_some (wpAny_Constant_int (wpAny_evalPart_none ?_))))
  have htp : ∀ h2 : Heap, (∀ b o, h₁.get? b = some o → h2.get? b = some o) → IsTup h2 t its := fun h2 k => by
    obtain ⟨o, e1, e2⟩ := ht1
    exact ⟨o, k _ _ e1, e2⟩
  have e1 : HT.sIx its.size 0 none = 0 := rfl
  have e2 : HT.sIx its.size its.size (some 2) = 2 := by
    simp [HT.sIx]
    try omega
  have ht2 := htp (h₁.push { cls := .type "slice", data := .fields #[.none, .int 2 (s.toks + 1), .none] }) fun b o e => Heap.get?_push_of_some _ e
  have hT : Shared.TypeIs { s with heap := h₁.push { cls := .type "slice", data := .fields #[.none, .int 2 (s.toks + 1), .none] }, toks := s.toks + 1 + 1 } (.ref t) "tuple" := by
    obtain ⟨o, q1, q2, _⟩ := ht2
    exact ⟨o, q1, q2⟩
  refine tail_any (ops := [.ref h₁.objs.size, .ref t]) hT PyProof.Rows.slot_tuple_getitem.lookup ?_ (by with_unfolding_all rfl)
  refine HT.getItem_tuple_cut ht2 (Heap.IsSliceOf.new ..) .none (.int 2 _) (by rw [e1, e2]; omega) ?_ hz'
  rw [e1, e2]
  refine ⟨_, _, _, rfl, rfl, fun b o e => Heap.get?_push_of_some _ (Heap.get?_push_of_some _ (kp b o e)), ⟨_, Heap.get?_push_size _ rfl, rfl, _, rfl⟩⟩
end
theorem sqL_extN {K : PySem.W.Frag} {H H' : Hp} {a : Addr} {xs : List V} (e : ExtN H H') (h : SqL K H a xs) : SqL K H' a xs := by
  rcases h with (h | ⟨o, h⟩) | h
  · exact .inl (.inl (e _ _ h fun ps z => nomatch z))
  · exact .inl (.inr ⟨o, e _ _ h fun ps z => nomatch z⟩)
  · exact .inr h
theorem Tups.extN {H H' : Hp} {vs : List V} {rows : List (List V)} (h : Tups H vs rows) (e : ExtN H H') : Tups H' vs rows := h.keep' fun _ _ q => e _ _ q fun ps z => nomatch z
/-- the piece p stands at v -/
def PcAt (h : Heap) (v : Value) (p : Pc) : Prop := ∃ t its, v = .ref t ∧ IsTup h t its ∧ Vals (rowP p) its.toList
theorem pcs_at {X : Cx} {pins : List (Addr × Obj)} {σ : L2.St} {H : Hp} {s : Shared} (I : Inv X pins σ H s) : ∀ {vs : List V} {l : List Pc} {us : List Value}, Tups H vs (l.map rowP) → Vals vs us → PySem.W.EachIs (PcAt s.heap) us l
  | [], [], _, _, .nil => .nil
  | _ :: _, p :: l, _ :: _, .cons ht tt, .cons r rr => by
    refine .cons ?_ (pcs_at I tt rr)
    cases r
    obtain ⟨its, rv, pt, _⟩ := I.tuple (SqT.of ht)
    exact ⟨_, its.toArray, rfl, pt, by simpa using rv⟩
theorem pcs_vals {h : Heap} : ∀ {us : List Value} {l : List Pc}, PySem.W.EachIs (PcAt h) us l → ∃ xs : List V, Vals xs us ∧ xs.length = us.length
  | _, _, .nil => ⟨[], .nil, rfl⟩
  | _, _, .cons hp t => by
    obtain ⟨a, its, rfl, _⟩ := hp
    obtain ⟨xs, r, e⟩ := pcs_vals t
    exact ⟨.ref a :: xs, .cons rfl r, by simp [e]⟩
/-- sorted(the log, key=lambda piece: piece[:2]): a new list -/
def tSortK (K : PySem.W.Frag) (T : List (Addr × Str)) (te : TE) : TE := fun σ H Q => te σ H fun x H1 => Tabs T H1 ∧ ∃ (l : Addr) (vs : List V) (log : List Pc), x = .ref l ∧ SqL K H1 l vs ∧ Tups H1 vs (log.map rowP) ∧
  ∀ (H2 : Hp), ExtN H1 H2 → Tabs T H2 → ∀ (p : Addr) (xs : List V), H2 p = none → xs.length = vs.length → Q (.ref p) (upd H2 p (.lst xs))
theorem pe_sortK {X : Cx} {T : List (Addr × Str)} {c P : Addr} {k : Nat} {e : Expr} {te : TE} {params : Arguments} {scope : Scope} {p p1 p2 p3 p4 lpos kpos pos : Pos} {j : Nat} (TB : TabB X.base X.mg c P) (hcode : X.env.code = .ref c)
    (hmT : (P, X.env.qual ++ "<lambda>") ∈ T) (hu : ∀ q ∈ T, q.1 = P → q.2 = X.env.qual ++ "<lambda>") (hr : Room k X.A) (hg : Gl X "sorted") (hm : X.mg "sorted" = none) (ha : PA X [e] (tCons te tNil))
    (hk : scope.kind = .function) (hco : scope.isCoroutine = false) (hgen : scope.isGenerator = false)
    (hloc : scope.names.lookup ("piece" : Str) = some .local) (hcell : ∀ y ∈ scope.names, y.2 ≠ .cell) (hfree : ∀ y ∈ scope.names, y.2 ≠ .free) (hclo : ∀ cells, cloFrom cells scope.names [] = [])
    (hdef : defaultsOf params X.env = ([], []))
    (hbind : ∀ (q : Str) (pm cv ctv v : Value), bindArgs (PySem.W.kla_fn "<lambda>" q params (.Subscript (.Name "piece" p1) (.Slice none (some (.Constant (.int 2) j p2)) none p3) p4) scope [] pm cv ctv) ⟨[v], []⟩ = pure [(("piece" : Str), v)])
    (hst : backTo pos (starEach [e] X.env) = (false, eval e X.env) :: backTo pos (starEach [] X.env) := by rfl) (hpl : (backTo pos (starEach [e] X.env)).any (·.1) = false := by rfl) :
    PE X (.Call (.Name "sorted" p) [e] [⟨some "key", .Lambda params (.Subscript (.Name "piece" p1) (.Slice none (some (.Constant (.int 2) j p2)) none p3) p4) scope lpos, kpos⟩] pos) (tSortK X.K T te) := by
  refine ⟨fun pins s σ H Q I h => ?_⟩
  refine wpAny_Call_Name_kw (ld_blt I hg hm boot_sorted ?_)
  refine PyProof.Rows.callWith_kw (thn (ha.run pos pins s σ H (fun vs H1 => match vs with
    | [x] => Tabs T H1 ∧ ∃ (l : Addr) (vs : List V) (log : List Pc), x = .ref l ∧ SqL X.K H1 l vs ∧ Tups H1 vs (log.map rowP) ∧ ∀ (H2 : Hp), ExtN H1 H2 → Tabs T H2 → ∀ (p : Addr) (xs : List V), H2 p = none → xs.length = vs.length → Q (.ref p) (upd H2 p (.lst xs))
    | _ => False) I h) fun us s1 ⟨vs0, H1, I1, r1, q1⟩ => ?_) hst hpl rfl rfl
  obtain ⟨x, rfl⟩ : ∃ x, vs0 = [x] := by
    match vs0, q1 with
    | [x], _ => exact ⟨x, rfl⟩
  obtain ⟨hT, l, vs, log, rfl, hl, ht, q⟩ := q1
  obtain ⟨u, rfl, ru⟩ := vals1 r1
  obtain rfl : u = Value.ref l := ru
  have noF : ∀ y ∈ scope.names, y.2 = .free → ∃ c, X.env.cells.lookup y.1 = some c := fun y hy e => absurd e (hfree y hy)
  show wpAny _ _ (evalAll ((do let v ← eval (.Lambda params (.Subscript (.Name "piece" p1) (.Slice none (some (.Constant (.int 2) j p2)) none p3) p4) scope lpos) X.env; standAt pos; pure v) :: [])) _ _ s1
  refine wpAny_evalAll_cons (wpAny_bind (lam_make2 I1 TB hcode hmT hu hT hdef noF fun f c' pm ctv H2 s2 I2 eN T2 hf hfn hfr hco' => wpAny_bind (wpAny_standAt (wpAny_pure (wpAny_evalAll_nil ?_)))))
  rw [hclo] at hf
  obtain ⟨its, rv, pl, hz⟩ := I2.list (sqL_extN eN hl)
  have ht2 := ht.extN eN
  have ea := pcs_at I2 ht2 rv
  have lz : log.length ≤ sizeLine := by
    have e1 := ht2.length
    rw [List.length_map] at e1
    omega
  obtain ⟨⟨oc, cvs, ct, hoc, hdc, hvc⟩, _, _⟩ := I2.hok c' _ hco'
  have hcode2 : s2.heap.CodeRec (.ref c') (X.env.qual ++ "<lambda>") := ⟨c', oc, cvs, ct, rfl, hoc, hdc, hvc⟩
  show wpAny (model X.prog X.w) X.A (call (.builtin "sorted") [.ref l] [(Str.ofString "key", .ref f)]) (EP X pins σ Q) X.xe s2
  refine PySem.W.sorted_key_data (b := false) (fun p : Pc => .tuple [.int p.at_, .int (sI p.sd)]) pl.isList ea (PySem.W.AllAlike.of fun _ _ => by simp [PySem.W.alike, PySem.W.alikeAll]) (PySem.W.Sortable.tuples fun _ => ⟨_, _, rfl⟩) lz (fun p _ => ?_) (PyProof.Rows.ksk_s1 _ _) (fun _ => PyProof.Rows.ksk_l1 _ _) (fun _ => PyProof.Rows.ksk_t1 _ _)
    (fun v p hp _ h tk kp => ?_) fun out c h' tk kp hn hD ho eo => ?_
  · have hd : (PyData.tuple [.int p.at_, .int (sI p.sd)]).depth = 1 := by simp [PyData.depth, PyData.depthAll]
    have := hr.un
    omega
  · obtain ⟨t, it, rfl, htup, hv⟩ := hp
    have hit : it.toList.length = 4 := hv.length.symm
    have htup' : IsTup h t it := by
      obtain ⟨o, e1, e2⟩ := htup
      exact ⟨o, kp _ _ e1, e2⟩
    have hsz : it.size = 4 := by rw [← Array.length_toList]; exact hit
    refine wpAny_mono (key_run (s := { s2 with heap := h, toks := tk }) (kp _ _ hf) (hcode2.keeps kp) (I2.nolimit.keeps kp) (by have := hr.dp; show X.A.depth < _; omega) hk hco hgen hloc hcell (fun v => hbind _ _ _ _ v) htup' (by omega) (by rw [hsz]; decide)) (fun v s3 hq => ?_) fun _ _ z => z
    obtain ⟨h3, tk3, T', rfl, rfl, k3, hT3⟩ := hq
    refine ⟨h3, tk3, rfl, k3, ?_⟩
    obtain ⟨o, e1, e2, n, e3⟩ := hT3
    have hcut : ∃ u1 u2 r, it.toList = u1 :: u2 :: r ∧ (∃ t, u1 = Value.int p.at_ t) ∧ ∃ t, u2 = Value.int (sI p.sd) t := by
      cases e : it.toList with
      | nil => rw [e] at hit; simp at hit
      | cons u1 r =>
        cases r with
        | nil => rw [e] at hit; simp at hit
        | cons u2 r =>
          rw [e] at hv
          cases hv with
          | cons a1 hv =>
            cases hv with
            | cons a2 hv => exact ⟨u1, u2, r, rfl, a1, a2⟩
    obtain ⟨u1, u2, r, ei, ⟨t1, rfl⟩, ⟨t2, rfl⟩⟩ := hcut
    have e4 : (it.toList.take 2).toArray.toList = [.int p.at_ t1, .int (sI p.sd) t2] := by rw [ei]; rfl
    refine Reads.tuple e1 e2 e3 ?_
    rw [e4]
    exact .cons (as := []) (bs := []) (.int _ _) (.cons (as := []) (bs := []) (.int _ _) .nil)
  · obtain ⟨xs, rx, lx⟩ := pcs_vals eo
    have lo : xs.length = vs.length := by
      have e1 := ht2.length
      rw [List.length_map] at e1
      omega
    refine ⟨.ref (s2.heap.objs.size + 1), upd H2 (s2.heap.objs.size + 1) (.lst xs), I2.laid (t' := tk) (fun b u e => kp b u e) (Nat.le_succ _) ⟨by omega, out, c, rx, hD⟩, rfl, q H2 eN T2 _ xs (I2.hok.fresh (Nat.le_succ _)) lo⟩
end Sh

namespace Sh
open PySem L2 PySem.Spec PyProof.Rows LamX
/-! ### a run is made -/
structure FunC (K : PySem.W.Frag) (x qual : Str) (st : Stmt) (f : Addr) (fd : FuncData) (c : Addr) : Prop where
  ex : ∃ (oc : Value) (od : Option Addr) (kV doc pm : Value) (an : Option Addr) (ct : Value) (osl : Array (Option Value)),
    fd = PySem.W.fnOf x qual (defArgs st) (defBody st) (defScope st) .none kV doc pm an (.ref c) ct ∧ K.lookup f = some ⟨oc, od, .func fd, osl⟩ ∧ PySem.W.codeIn K (.ref c) qual = true
theorem FunC.ok {P : Program} {w : World} {K : PySem.W.Frag} {mg : Str → Option Value} {base : Heap} {x qual : Str} {st : Stmt} {f c : Addr} {fd : FuncData} {N ps : List Str} {k : Nat} {sp : Sp} (F : FunC K x qual st f fd c) (S : FnScope N ps (defScope st)) (len : ∀ vs H Q E, sp vs H Q E → vs.length = ps.length)
    (hbody : ∀ (A : Around) (outer : List Env) (s : Shared) (H : Hp) (vs : List V) (Q : VK) (E : XK), Room k (A.deeper (envOfC qual (defScope st) s.heap.objs.size f (.ref c))) → sp vs H Q E →
      ∃ t, PSs (cxOf CX0 P w K mg base N qual (defScope st) f (.ref c) A outer s H E).nox (defBody st) t ∧ t { nx := fun _ H' => Q .non H', rt := Q } (L2.start N vs) H) : FnOk P w K mg base CX0 (k + 1) f fd ps sp := by
  obtain ⟨oc, od, kV, doc, pm, an, ct, osl, rfl, lk, hcd⟩ := F.ex
  refine fn_of lk hcd S len fun A outer s H vs Q E hr hsp => ?_
  obtain ⟨t, h, q⟩ := hbody A outer s H vs Q E hr hsp
  exact ⟨t, h.nox, q⟩
theorem cr_sumK {X : Cx} {K : PySem.W.Frag} (hK : X.K = K) (hc : X.calm = true) : CallR X (.builtin "sum") (rSum K) := hK ▸ cr_sum hc
def TT (C : AD) : List (Addr × Str) := [(C.tab, ((("Run.__init__" : Str) ++ ".<locals>.") ++ "<lambda>"))]
/-- no table is tracked -/
def NT (H : Hp) : Prop := ∀ b ps, H b ≠ some (.tbl ps)
theorem NT.upd {H : Hp} {a : Addr} {o : HO} (h : NT H) (ho : ∀ ps, o ≠ .tbl ps) : NT (L2.upd H a o) := fun b ps e => by
  by_cases y : b = a
  · subst y; rw [upd_same] at e; exact ho ps (Option.some.inj e)
  · rw [upd_ne y] at e; exact h b ps e
theorem NT.same {H0 H H' : Hp} (h : NT H0) (s : Same H0 H) (e : ExtN H H') : Same H0 H' := fun b o q => e b o (s b o q) fun ps z => h b ps (by rw [q, z])
theorem Ini.extN {H0 H H' : Hp} {p C dx : Addr} {fs : List (Str × V)} (i : Ini H0 H p C dx fs []) (n : NT H0) (e : ExtN H H') : Ini H0 H' p C dx fs [] :=
  ⟨n.same i.same e, i.p0, e _ _ i.ins (fun ps z => (nomatch z)), fun q hq => absurd hq List.not_mem_nil, i.nd⟩
theorem Tabs.same {T : List (Addr × Str)} {H H' : Hp} (t : Tabs T H) (s : Same H H') : Tabs T H' := t.ext fun b o e => s b o e
/-- an instance written: the tables stay -/
theorem tabs_ins {T : List (Addr × Str)} {H : Hp} {r c dx : Addr} {fs : List (Str × V)} {o : HO} (t : Tabs T H) (h : H r = some (.ins c dx fs)) : Tabs T (L2.upd H r o) := fun p hp => by
  obtain ⟨ps, h1, h2, h3⟩ := t p hp
  have k : ∀ b u, H b = some u → (∀ c dx fs, u ≠ .ins c dx fs) → L2.upd H r o b = some u := fun b u e n => by
    rw [upd_ne]
    · exact e
    · intro z
      subst z
      rw [h] at e
      exact n _ _ _ (Option.some.inj e).symm
  refine ⟨ps, k _ _ h1 (fun _ _ _ z => (nomatch z)), h2, fun pos cv hc => ?_⟩
  obtain ⟨c', e1, e2⟩ := h3 pos cv hc
  refine ⟨c', e1, k _ _ e2 fun _ _ _ z => ?_⟩
  unfold CodeO at z
  cases z
/-- a list just made, which is not tracked further -/
theorem Ini.free {H0 H : Hp} {p C dx x : Addr} {fs : List (Str × V)} {o : HO} (i : Ini H0 H p C dx fs []) (hx : H x = none) : Ini H0 (L2.upd H x o) p C dx fs [] :=
  ⟨i.same.trans (same_upd hx), i.p0, by rw [upd_ne (ne_of_none i.ins hx)]; exact i.ins, fun q hq => absurd hq List.not_mem_nil, i.nd⟩
theorem Ini.ext {H0 H H' : Hp} {p C dx : Addr} {fs : List (Str × V)} (i : Ini H0 H p C dx fs []) (e : Same H H') : Ini H0 H' p C dx fs [] :=
  ⟨i.same.trans e, i.p0, e _ _ i.ins, fun q hq => absurd hq List.not_mem_nil, i.nd⟩
def ggAns (b : Bool) (_ : V) (row : List V) : Option V := if row[1]? = some (.int (sI b)) ∧ row[2]? = some (.int 0) then some (.int 1) else none
def ggQui (w : Int) (_ : V) (row : List V) : Option V := match row with
  | .int a :: _ => some (.int (a + w))
  | _ => none
theorem pick_ones (b : Bool) : ∀ (vs : List V) (rows : List (List V)), ∃ n, pick (ggAns b) vs rows = (List.replicate n (1 : Int)).map V.int
  | [], _ => ⟨0, rfl⟩
  | _ :: _, [] => ⟨0, rfl⟩
  | v :: vs, row :: rows => by
    obtain ⟨n, e⟩ := pick_ones b vs rows
    rw [pick_cons, e]
    unfold ggAns
    split
    · exact ⟨n + 1, rfl⟩
    · exact ⟨n, rfl⟩
theorem goJ {J J' : Hp} {R : Hp → Prop} (h : J' = J) (r : R J) : R J' := h ▸ r
def fRun (e p a h u l : Addr) (b : Bool) (q : Int) : List (Str × V) := [("ends", .ref e), ("stuck", .bl b), ("pieces", .ref p), ("answers", .ref a), ("held", .ref h), ("unread", .ref u), ("quiet", .int q), ("all", .ref l)]
/-- the run of the state S at r -/
def RunAt (C : AD) (H : Hp) (r : Addr) (S : Sy) : Prop := ∃ dx e p a h u l q, H r = some (.ins C.Run dx (fRun e p a h u l (decide ((S.c false).ended = none) || decide ((S.c true).ended = none)) q)) ∧ H e = some (.tup [optV (S.c false).ended, optV (S.c true).ended]) ∧
  H h = some (.tup [.int (S.f.s false).long, .int (S.f.s true).long]) ∧ H u = some (.tup [.int (unread S false), .int (unread S true)])
def spRun___init__ (_ : PySem.W.Frag) (C : AD) : Sp := fun vs H Q _ => ∃ (H0 B : Hp) (r dx p cs : Addr) (z : FZ) (L : Ln) (q : Bool → Addr) (y : Bool → CoZ) (S : Sy) (M : Int), vs = [.ref r, .ref p, .ref cs] ∧ Same H0 H ∧ NT H0 ∧ H0 r = none ∧ H r = some (.ins C.Run dx []) ∧
  FlowAt C B H0 p z L S.f ∧ H0 cs = some (.tup [.ref (q false), .ref (q true)]) ∧ (∀ b, H0 (q b) = some (coO C (y b) (S.c b))) ∧ Ok M S.f ∧ M ≤ 1000000 ∧ Tabs (TT C) H ∧
  ∀ H', Same H0 H' → Tabs (TT C) H' → RunAt C H' r S → Q .non H'
section
variable {P : Program} {w : World} {K : PySem.W.Frag} {mg : Str → Option Value} {base : Heap} {C : AD}
abbrev sRun___init__ : Stmt := inClass (topS 43) 0
theorem scRun___init__ : FnScope ["self", "flow", "courses", "course", "piece", "side"] ["self", "flow", "courses"] (defScope sRun___init__) := ⟨rfl, rfl, rfl, by decide +kernel, rfl, by decide +kernel, by decide +kernel⟩
abbrev scAns : Scope := { kind := .function, names := [((".0" : Str), .local), (("side" : Str), .cell), (("sum" : Str), .globalImplicit), (("flow" : Str), .cell)], isGenerator := false, isCoroutine := false }
theorem okRun___init__ {f cR : Addr} {fd : FuncData} (F : FunC K "__init__" "Run.__init__" sRun___init__ f fd cR) (T : Txt K mg C) (TB : TabB base mg cR C.tab)
    (MFlow_fresh : MOk P w K mg base C.Flow "fresh" 1 ["self", "side"] (spFlow_fresh K C)) :
    FnOk P w K mg base CX0 2 f fd ["self", "flow", "courses"] (spRun___init__ K C) := by
  obtain ⟨_, _, GFlow_fresh, bFlow_fresh, mFlow_fresh⟩ := MFlow_fresh.ex
  refine F.ok scRun___init__ (fun vs H Q E h => ?_) (fun A outer s H vs Q E hr h => ?_)
  · obtain ⟨H0, B, r, dx, p, cs, z, L, q, y, S, M, rfl, _⟩ := h
    rfl
  · obtain ⟨H0, B, r, dx, p, cs, z, L, q, y, S, M, rfl, s0, nt, r0, hr0, hfl, hcs, hq, ok, hM, tT, k⟩ := h
    refine ⟨_, (pss_cons (ps_fld (pv 0) (pe_callTy call_tuple_of (by rfl) T.z_tuple (by decide +kernel) (pa_cons (pe_lc (own := [("course", 3)]) rfl scRun___init__.nd (pi_tup (pv 2)) (blkOk_by (N := ["self", "flow", "courses", "course", "piece", "side"]) (sc := defScope sRun___init__) (by decide +kernel)) (fun _ _ _ _ _ => by exact (pg_name (i := 3) scRun___init__.nd rfl (Or.inl rfl))) (fun _ _ _ _ _ => by exact pts_nil) (fun _ _ _ _ _ => by exact (pe_fldK (K := K) rfl (pv 3) rfl))) pa_nil)) rfl)
      (pss_cons (ps_fld (pv 0) (pe_cmpR op_in_seq pe_non (pe_fld (pv 0) rfl) (by rfl)) rfl)
      (pss_cons (ps_fld (pv 0) (pe_callTy call_tuple_of (by rfl) T.z_tuple (by decide +kernel) (pa_cons (pe_sortK (T := TT C) (c := cR) (P := C.tab) TB rfl (List.mem_singleton.mpr rfl) (fun q hq _ => by rw [List.mem_singleton.mp hq]; rfl) hr (by rfl) T.z_sorted (pa_cons (pe_fld (pv 1) rfl) pa_nil) rfl rfl rfl rfl (by decide +kernel) (by decide +kernel) (fun _ => rfl) rfl (fun _ _ _ _ _ => rfl)) pa_nil)) rfl)
      (pss_cons (ps_fld (pv 0) (pe_callTy call_tuple_of (by rfl) T.z_tuple (by decide +kernel) (pa_cons (pe_lc (own := [("side", 5)]) rfl scRun___init__.nd (pi_tup (pe_tup (pa_cons pe_int (pa_cons pe_int pa_nil)))) (blkOk_by (N := ["self", "flow", "courses", "course", "piece", "side"]) (sc := defScope sRun___init__) (by decide +kernel)) (fun _ _ _ _ _ => by exact (pg_name (i := 5) scRun___init__.nd rfl (Or.inr rfl))) (fun _ _ _ _ _ => by exact pts_nil) (fun _ _ _ _ _ => by exact (pe_callB (cr_sumK (K := K) rfl rfl) (by rfl) T.z_sum (by decide +kernel) (pa_cons (pe_lc (own := [("piece", 4)]) rfl scRun___init__.nd (pi_listK (K := K) rfl (pe_fldK (K := K) rfl (pv 1) rfl)) (blkOk_by (N := ["self", "flow", "courses", "course", "piece", "side"]) (sc := scAns) (by decide +kernel)) (fun _ _ _ _ _ => by exact (pg_name (i := 4) scRun___init__.nd rfl (Or.inl rfl))) (fun _ _ _ _ _ => by exact (pts_one (PW.pt (pw_and (pt_cmpR op_eq (pe_ix (ix_tupK (K := K) rfl) (pv 4) pe_int (fun _ _ => rfl)) (pv 5) (nomark _)) (pw_and1 (pt_cmpR op_eq (pe_ix (ix_tupK (K := K) rfl) (pv 4) pe_int (fun _ _ => rfl)) pe_int (nomark _))))))) (fun _ _ _ _ _ => by exact pe_int)) pa_nil)))) pa_nil)) rfl)
      (pss_cons (ps_fld (pv 0) (pe_callTy call_tuple_of (by rfl) T.z_tuple (by decide +kernel) (pa_cons (pe_fld (pv 1) rfl) pa_nil)) rfl)
      (pss_cons (ps_fld (pv 0) (pe_tup (pa_cons (pe_meth (pv 1) T.cl_Flow mFlow_fresh GFlow_fresh (hr.mono (by decide)) bFlow_fresh .nil pass0 (pa_cons pe_int pa_nil)) (pa_cons (pe_meth (pv 1) T.cl_Flow mFlow_fresh GFlow_fresh (hr.mono (by decide)) bFlow_fresh .nil pass0 (pa_cons pe_int pa_nil)) pa_nil))) rfl)
      (pss_cons (ps_fld (pv 0) (pe_callB (cr_max rfl) (by rfl) T.z_max (by decide +kernel) (pa_cons (pe_lst (pa_cons pe_int (StX.pa_star (pe_lc (own := [("piece", 4)]) rfl scRun___init__.nd (pi_list (pe_fld (pv 1) rfl)) (blkOk_by (N := ["self", "flow", "courses", "course", "piece", "side"]) (sc := defScope sRun___init__) (by decide +kernel)) (fun _ _ _ _ _ => by exact (pg_name (i := 4) scRun___init__.nd rfl (Or.inl rfl))) (fun _ _ _ _ _ => by exact pts_nil) (fun _ _ _ _ _ => by exact (pe_op op_add (pe_ix (ix_tupK (K := K) rfl) (pv 4) pe_int (fun _ _ => rfl)) (pe_fldK (K := K) rfl (pe_fldK (K := K) rfl (pv 1) rfl) rfl)))) pa_nil))) pa_nil)) rfl)
      (pss_one (ps_fld (pv 0) (pe_tup (pa_cons (pe_fld (pv 0) rfl) (pa_cons (pe_fld (pv 0) rfl) (pa_cons (pe_fld (pv 0) rfl) (pa_cons (pe_fld (pv 0) rfl) (pa_cons (pe_fld (pv 0) rfl) pa_nil)))))) rfl))))))))), ?_⟩
    obtain ⟨ad, rr, fl, lg, hf0⟩ := id hfl
    have i0 : Ini H0 H r C.Run dx [] [] := ⟨s0, r0, hr0, fun q hq => absurd hq List.not_mem_nil, List.nodup_nil⟩
    have lM := ok.logLen
    have lvl : lg.length = S.f.log.length := by
      have e := hf0.lgs.length
      rw [List.length_map] at e
      exact e
    have hcH : ∀ (b : Bool) {H' : Hp}, Same H H' → H' (q b) = some (.ins C.Course (y b).dx (fCo (y b).st (y b).bg (S.c b).place (optV (S.c b).til) (optV (S.c b).ended))) := fun b H' e => e _ _ (s0 _ _ (hq b))
    -- self.ends
    have hcsH := s0 _ _ hcs
    refine ⟨_, rfl, cs, rfl, ⟨_, SqT.of hcsH⟩, fun D hD => ?_⟩
    refine lc_tup (K := K) (a := cs) (xs := [.ref (q false), .ref (q true)]) (fun i H' => Same H H' ∧ H' D = some (.lst ([optV (S.c false).ended, optV (S.c true).ended].take i))) ⟨same_upd hD, upd_same⟩ (fun i H' _ h => SqT.of (h.1 _ _ hcsH)) (fun i x H' hi h => ?_) (fun H1 h1 => ?_)
    · obtain ⟨eH, hDH⟩ := h
      rcases pairQ hi with ⟨rfl, rfl⟩ | ⟨rfl, rfl⟩
      · have hc := hcH false eH
        exact ⟨rfl, yes_ite ⟨_, rfl, _, _, _, _, _, rfl, hc, T.cl_Course, T.n_Course_ended, rfl, _, hDH, by show 0 < sizeLine; decide, Same.upd0 eH hD, upd_same⟩⟩
      · have hc := hcH true eH
        exact ⟨rfl, yes_ite ⟨_, rfl, _, _, _, _, _, rfl, hc, T.cl_Course, T.n_Course_ended, rfl, _, hDH, by show 1 < sizeLine; decide, Same.upd0 eH hD, upd_same⟩⟩
    obtain ⟨e1, hD1⟩ := h1
    refine ⟨D, _, rfl, .inl ⟨SqL.of hD1, fun e he => ?_⟩⟩
    have i1 := ((i0.ext e1).tup he (.tup [optV (S.c false).ended, optV (S.c true).ended])).fld [("ends", .ref e)]
    have e0 : H0 e = none := (i0.ext e1).same.free he
    have sA := same_upd e0 (o := .tup [optV (S.c false).ended, optV (S.c true).ended])
    have nt1 : NT (L2.upd H0 e (.tup [optV (S.c false).ended, optV (S.c true).ended])) := nt.upd fun ps z => nomatch z
    have hee : (L2.upd H0 e (.tup [optV (S.c false).ended, optV (S.c true).ended])) e = some (.tup [optV (S.c false).ended, optV (S.c true).ended]) := upd_same
    refine ⟨_, rfl, r, C.Run, dx, [], rfl, ?_, T.cl_Run, T.n_Run_ends, by decide, ?_⟩
    · rw [upd_ne (ne_of_none (i0.ext e1).ins he)]; exact (i0.ext e1).ins
    have t1 : Tabs (TT C) (L2.upd (L2.upd H1 e (.tup [optV (S.c false).ended, optV (S.c true).ended])) r (.ins C.Run dx [("ends", .ref e)])) := by
      have := Tabs.same (Tabs.same tT e1) (same_upd he (o := .tup [optV (S.c false).ended, optV (S.c true).ended]))
      exact tabs_ins this ((i0.ext e1).tup he (.tup [optV (S.c false).ended, optV (S.c true).ended])).ins
    generalize L2.upd H0 e (.tup [optV (S.c false).ended, optV (S.c true).ended]) = B1 at i1 sA nt1 hee
    generalize hH1 : L2.upd (L2.upd H1 e (.tup [optV (S.c false).ended, optV (S.c true).ended])) r (.ins C.Run dx [("ends", .ref e)]) = J1 at i1 t1
    have hH1' : L2.upd (L2.upd H1 e (.tup [optV (S.c false).ended, optV (S.c true).ended])) r (.ins C.Run dx (putF "ends" (.ref e) [])) = J1 := hH1
    show tSeq _ _ _ _ (L2.upd (L2.upd H1 e (.tup [optV (S.c false).ended, optV (S.c true).ended])) r (.ins C.Run dx (putF "ends" (.ref e) [])))
    rw [hH1']
    -- self.stuck
    have hb : inV .non [optV (S.c false).ended, optV (S.c true).ended] = (decide ((S.c false).ended = none) || decide ((S.c true).ended = none)) := by
      cases (S.c false).ended <;> cases (S.c true).ended <;> rfl
    have hfl2 : [optV (S.c false).ended, optV (S.c true).ended].all flatV = true := by
      cases (S.c false).ended <;> cases (S.c true).ended <;> rfl
    refine ⟨_, rfl, r, C.Run, dx, _, _, rfl, i1.ins, T.cl_Run, T.n_Run_ends, rfl, e, _, rfl, .inr (SqT.of (i1.same _ _ hee)), rfl, hfl2, _, rfl, r, C.Run, dx, [("ends", .ref e)], rfl, i1.ins, T.cl_Run, T.n_Run_stuck, by show 1 < 1000; decide, ?_⟩
    have i2 := i1.fld [("ends", .ref e), ("stuck", .bl (decide ((S.c false).ended = none) || decide ((S.c true).ended = none)))]
    have t2 := tabs_ins (o := .ins C.Run dx [("ends", .ref e), ("stuck", .bl (decide ((S.c false).ended = none) || decide ((S.c true).ended = none)))]) t1 i1.ins
    generalize hbb : (decide ((S.c false).ended = none) || decide ((S.c true).ended = none)) = bb at i2 t2 hb
    rw [show (if false = true then !inV .non [optV (S.c false).ended, optV (S.c true).ended] else inV .non [optV (S.c false).ended, optV (S.c true).ended]) = bb from hb]
    generalize hH2 : L2.upd J1 r (.ins C.Run dx [("ends", .ref e), ("stuck", .bl bb)]) = J2 at i2 t2
    have hH2' : L2.upd J1 r (.ins C.Run dx (putF "stuck" (.bl bb) [("ends", .ref e)])) = J2 := hH2
    show tSeq _ _ _ _ (L2.upd J1 r (.ins C.Run dx (putF "stuck" (.bl bb) [("ends", .ref e)])))
    rw [hH2']
    -- self.pieces
    have f2 := hf0.ext (sA.trans i2.same)
    refine ⟨_, rfl, _, _, _, _, _, rfl, f2.ins, T.cl_Flow, T.n_Flow_log, rfl, t2, ad .log, lg, S.f.log, rfl, SqL.of (f2.at_ .log), f2.lgs, fun H3 eN t3 pp xs hpp hxs => ⟨pp, xs, rfl, .inl ⟨SqL.of upd_same, fun pt hpt => ?_⟩⟩⟩
    have i3 := (i2.extN nt1 eN).free (o := .lst xs) hpp
    have t3' := Tabs.same t3 (same_upd hpp (o := .lst xs))
    have i4 := (i3.free (o := .tup xs) hpt)
    have t4' := Tabs.same t3' (same_upd hpt (o := .tup xs))
    refine ⟨_, rfl, r, C.Run, dx, _, rfl, i4.ins, T.cl_Run, T.n_Run_pieces, by show 2 < 1000; decide, ?_⟩
    have i5 := i4.fld [("ends", .ref e), ("stuck", .bl bb), ("pieces", .ref pt)]
    have t5 := tabs_ins (o := .ins C.Run dx [("ends", .ref e), ("stuck", .bl bb), ("pieces", .ref pt)]) t4' i4.ins
    generalize hH5 : L2.upd (L2.upd (L2.upd H3 pp (.lst xs)) pt (.tup xs)) r (.ins C.Run dx [("ends", .ref e), ("stuck", .bl bb), ("pieces", .ref pt)]) = J5 at i5 t5
    have hH5' : L2.upd (L2.upd (L2.upd H3 pp (.lst xs)) pt (.tup xs)) r (.ins C.Run dx (putF "pieces" (.ref pt) [("ends", .ref e), ("stuck", .bl bb)])) = J5 := hH5
    show tSeq _ _ _ _ (L2.upd (L2.upd (L2.upd H3 pp (.lst xs)) pt (.tup xs)) r (.ins C.Run dx (putF "pieces" (.ref pt) [("ends", .ref e), ("stuck", .bl bb)])))
    rw [hH5']
    -- self.answers
    have f5 := hf0.ext (sA.trans i5.same)
    refine ⟨by show 2 ≤ sizeLine; decide, fun u hu => ⟨u, rfl, ⟨_, SqT.of upd_same⟩, fun D hD => ?_⟩⟩
    have su : Same J5 (L2.upd J5 u (.tup [.int 0, .int 1])) := same_upd hu
    refine lc_tup (K := K) (a := u) (xs := [.int 0, .int 1]) (fun i H' => Same (L2.upd J5 u (.tup [.int 0, .int 1])) H' ∧ ∃ ns : List Int, H' D = some (.lst (ns.map V.int)) ∧ ns.length = i) ⟨same_upd hD, [], upd_same, rfl⟩ (fun i H' _ h => SqT.of (h.1 _ _ upd_same)) (fun i x H' hi h => ?_) (fun H6 h6 => ?_)
    · obtain ⟨eH, ns, hDH, lns⟩ := h
      have f6 := f5.ext (su.trans eH)
      obtain ⟨b, rfl, hib⟩ : ∃ b, x = .int (sI b) ∧ i ≤ 1 := by
        rcases pair01 hi with ⟨rfl, rfl⟩ | ⟨rfl, rfl⟩
        · exact ⟨false, rfl, by omega⟩
        · exact ⟨true, rfl, by omega⟩
      refine ⟨rfl, yes_ite ?_⟩
      refine ⟨_, rfl, _, _, _, _, _, rfl, f6.ins, T.cl_Flow, T.n_Flow_log, rfl, ad .log, rfl, ⟨_, SqL.of (f6.at_ .log)⟩, fun D2 hD2 => ?_⟩
      refine lc_rows (K := K) (ggAns b) hD2 (SqL.of (f6.at_ .log)) f6.lgs (by show lg.length ≤ _; omega) (fun v row H' Yes No hv hrw e ht hy hn => ?_) (fun H7 e7 hD7 => ?_)
      · obtain ⟨x, hx, rfl⟩ := List.mem_map.mp hrw
        refine ⟨rfl, _, rfl, v, _, _, _, rfl, rfl, SqT.of ht, rfl, _, rfl, rfl, _, rfl, ?_⟩
        refine ite2 (fun c => ?_) (fun c => ?_)
        · refine ⟨_, rfl, v, _, _, _, rfl, rfl, SqT.of ht, rfl, rfl, _, rfl, ?_⟩
          refine ite2 (fun c2 => ?_) (fun c2 => ?_)
          · exact hy _ _ (Same.refl _) (if_pos ⟨congrArg some (of_decide_eq_true c), congrArg some (of_decide_eq_true c2)⟩)
          · exact hn _ (Same.refl _) (if_neg fun z => c2 (decide_eq_true (Option.some.inj z.2)))
        · exact hn _ (Same.refl _) (if_neg fun z => c (decide_eq_true (Option.some.inj z.1)))
      obtain ⟨n, en⟩ := pick_ones b lg (S.f.log.map rowP)
      replace hD7 : H7 D2 = some (.lst (pick (ggAns b) lg (S.f.log.map rowP))) := hD7
      rw [en] at hD7
      refine ⟨D2, List.replicate n 1, rfl, SqL.of hD7, ns.map V.int, e7 _ _ hDH, ?_, ?_⟩
      · rw [List.length_map, lns]; exact big_line (by omega)
      · refine ⟨Same.upd0 (eH.trans e7) hD, ns ++ [(List.replicate n (1 : Int)).sum], ?_, by simp [lns]⟩
        rw [upd_same, List.map_append]
        rfl
    obtain ⟨e6, ns, hD6, _⟩ := h6
    refine ⟨D, _, rfl, .inl ⟨SqL.of hD6, fun an han => ?_⟩⟩
    have i6 := (i5.ext (su.trans e6)).free (o := .tup (ns.map V.int)) han
    have t6 := Tabs.same (Tabs.same t5 (su.trans e6)) (same_upd han (o := .tup (ns.map V.int)))
    refine ⟨_, rfl, r, C.Run, dx, _, rfl, i6.ins, T.cl_Run, T.n_Run_answers, by show 3 < 1000; decide, ?_⟩
    have i7 := i6.fld [("ends", .ref e), ("stuck", .bl bb), ("pieces", .ref pt), ("answers", .ref an)]
    have t7 := tabs_ins (o := .ins C.Run dx [("ends", .ref e), ("stuck", .bl bb), ("pieces", .ref pt), ("answers", .ref an)]) t6 i6.ins
    generalize hJ7 : L2.upd (L2.upd H6 an (.tup (ns.map V.int))) r (.ins C.Run dx [("ends", .ref e), ("stuck", .bl bb), ("pieces", .ref pt), ("answers", .ref an)]) = J7 at i7 t7
    have hJ7' : L2.upd (L2.upd H6 an (.tup (ns.map V.int))) r (.ins C.Run dx (putF "answers" (.ref an) [("ends", .ref e), ("stuck", .bl bb), ("pieces", .ref pt)])) = J7 := hJ7
    show tSeq _ _ _ _ (L2.upd (L2.upd H6 an (.tup (ns.map V.int))) r (.ins C.Run dx (putF "answers" (.ref an) [("ends", .ref e), ("stuck", .bl bb), ("pieces", .ref pt)])))
    rw [hJ7']
    -- self.held
    have f7 := hf0.ext (sA.trans i7.same)
    refine ⟨_, rfl, _, _, _, _, _, rfl, f7.ins, T.cl_Flow, T.n_Flow_long, rfl, ad .long, _, rfl, .inl ⟨SqL.of (f7.at_ .long), fun hd hhd => ?_⟩⟩
    have hd0 : B1 hd = none := i7.same.free hhd
    have i8 := i7.tup hhd (.tup [.int (S.f.s false).long, .int (S.f.s true).long])
    have t8 := Tabs.same t7 (same_upd hhd (o := .tup [.int (S.f.s false).long, .int (S.f.s true).long]))
    have sB := sA.trans (same_upd hd0 (o := .tup [.int (S.f.s false).long, .int (S.f.s true).long]))
    have hee2 := same_upd hd0 (o := .tup [.int (S.f.s false).long, .int (S.f.s true).long]) _ _ hee
    have hhd2 : (L2.upd B1 hd (.tup [.int (S.f.s false).long, .int (S.f.s true).long])) hd = some (.tup [.int (S.f.s false).long, .int (S.f.s true).long]) := upd_same
    generalize L2.upd B1 hd (.tup [.int (S.f.s false).long, .int (S.f.s true).long]) = B2 at i8 sB hee2 hhd2
    refine ⟨_, rfl, r, C.Run, dx, _, rfl, i8.ins, T.cl_Run, T.n_Run_held, by show 4 < 1000; decide, ?_⟩
    have i9 := i8.fld [("ends", .ref e), ("stuck", .bl bb), ("pieces", .ref pt), ("answers", .ref an), ("held", .ref hd)]
    have t9 := tabs_ins (o := .ins C.Run dx [("ends", .ref e), ("stuck", .bl bb), ("pieces", .ref pt), ("answers", .ref an), ("held", .ref hd)]) t8 i8.ins
    generalize hJ9 : L2.upd (L2.upd J7 hd (.tup [.int (S.f.s false).long, .int (S.f.s true).long])) r (.ins C.Run dx [("ends", .ref e), ("stuck", .bl bb), ("pieces", .ref pt), ("answers", .ref an), ("held", .ref hd)]) = J9 at i9 t9
    have hJ9' : L2.upd (L2.upd J7 hd (.tup [.int (S.f.s false).long, .int (S.f.s true).long])) r (.ins C.Run dx (putF "held" (.ref hd) [("ends", .ref e), ("stuck", .bl bb), ("pieces", .ref pt), ("answers", .ref an)])) = J9 := hJ9
    show tSeq _ _ _ _ (L2.upd (L2.upd J7 hd (.tup [.int (S.f.s false).long, .int (S.f.s true).long])) r (.ins C.Run dx (putF "held" (.ref hd) [("ends", .ref e), ("stuck", .bl bb), ("pieces", .ref pt), ("answers", .ref an)])))
    rw [hJ9']
    -- self.unread
    have f9 := hf0.ext (sB.trans i9.same)
    refine ⟨_, rfl, _, _, _, rfl, f9.ins, (by rfl), B, p, z, L, S.f, false, rfl, f9.mk', _, rfl, _, _, _, rfl, f9.ins, (by rfl), B, p, z, L, S.f, true, rfl, f9.mk', by show 2 ≤ sizeLine; decide, fun ur hur => ?_⟩
    have ur0 : B2 ur = none := i9.same.free hur
    have i10 := i9.tup hur (.tup [.int (unread S false), .int (unread S true)])
    have t10 := Tabs.same t9 (same_upd hur (o := .tup [.int (unread S false), .int (unread S true)]))
    have sC := sB.trans (same_upd ur0 (o := .tup [.int (unread S false), .int (unread S true)]))
    have hee3 := same_upd ur0 (o := .tup [.int (unread S false), .int (unread S true)]) _ _ hee2
    have hhd3 := same_upd ur0 (o := .tup [.int (unread S false), .int (unread S true)]) _ _ hhd2
    have hur3 : (L2.upd B2 ur (.tup [.int (unread S false), .int (unread S true)])) ur = some (.tup [.int (unread S false), .int (unread S true)]) := upd_same
    generalize L2.upd B2 ur (.tup [.int (unread S false), .int (unread S true)]) = B3 at i10 sC hee3 hhd3 hur3
    refine ⟨_, rfl, r, C.Run, dx, _, rfl, i10.ins, T.cl_Run, T.n_Run_unread, by show 5 < 1000; decide, ?_⟩
    have i11 := i10.fld [("ends", .ref e), ("stuck", .bl bb), ("pieces", .ref pt), ("answers", .ref an), ("held", .ref hd), ("unread", .ref ur)]
    have t11 := tabs_ins (o := .ins C.Run dx [("ends", .ref e), ("stuck", .bl bb), ("pieces", .ref pt), ("answers", .ref an), ("held", .ref hd), ("unread", .ref ur)]) t10 i10.ins
    generalize hJ11 : L2.upd (L2.upd J9 ur (.tup [.int (unread S false), .int (unread S true)])) r (.ins C.Run dx [("ends", .ref e), ("stuck", .bl bb), ("pieces", .ref pt), ("answers", .ref an), ("held", .ref hd), ("unread", .ref ur)]) = J11 at i11 t11
    have hJ11' : L2.upd (L2.upd J9 ur (.tup [.int (unread S false), .int (unread S true)])) r (.ins C.Run dx (putF "unread" (.ref ur) [("ends", .ref e), ("stuck", .bl bb), ("pieces", .ref pt), ("answers", .ref an), ("held", .ref hd)])) = J11 := hJ11
    show tSeq _ _ _ _ (L2.upd (L2.upd J9 ur (.tup [.int (unread S false), .int (unread S true)])) r (.ins C.Run dx (putF "unread" (.ref ur) [("ends", .ref e), ("stuck", .bl bb), ("pieces", .ref pt), ("answers", .ref an), ("held", .ref hd)])))
    rw [hJ11']
    -- self.quiet
    have f11 := hf0.ext (sC.trans i11.same)
    refine ⟨_, rfl, _, _, _, _, _, rfl, f11.ins, T.cl_Flow, T.n_Flow_log, rfl, ad .log, rfl, ⟨_, SqL.of (f11.at_ .log)⟩, fun D hD => ?_⟩
    refine lc_rows (K := K) (ggQui L.way) hD (SqL.of (f11.at_ .log)) f11.lgs (by show lg.length ≤ _; omega) (fun v row H' Yes No hv hrw e ht hy hn => ?_) (fun H12 e12 hD12 => ?_)
    · obtain ⟨x, hx, rfl⟩ := List.mem_map.mp hrw
      have f12 := f11.ext e
      obtain ⟨dl, tl, hln⟩ := f12.lineH.ln
      refine ⟨rfl, yes_ite ?_⟩
      exact ⟨_, rfl, v, _, _, _, rfl, rfl, SqT.of ht, at0 _ _, _, rfl, _, _, _, _, _, rfl, f12.ins, T.cl_Flow, T.n_Flow_line, rfl, _, _, _, _, _, rfl, hln, T.cl_Line, T.n_Line_way, rfl, _, _, rfl, rfl, hy _ _ (Same.refl _) rfl⟩
    replace hD12 : H12 D = some (.lst (pick (ggQui L.way) lg (S.f.log.map rowP))) := hD12
    rw [pick_map (row := rowP) (k := fun p : Pc => V.int (p.at_ + L.way)) (fun _ _ => rfl) lvl] at hD12
    have i12 := i11.ext e12
    refine ⟨D, _, rfl, .inr (SqL.of hD12), ?_, fun l hl => ?_⟩
    · show ([V.int 0] ++ (S.f.log.map (fun p : Pc => V.int (p.at_ + L.way)) ++ [])).length ≤ sizeLine
      have : ([V.int 0] ++ (S.f.log.map (fun p : Pc => V.int (p.at_ + L.way)) ++ [])).length ≤ 1000001 := by simp; omega
      exact Nat.le_trans this (by decide)
    refine ⟨l, 0 :: S.f.log.map (fun p : Pc => p.at_ + L.way), rfl, SqL.of ?_, Nat.succ_pos _, fun qu _ _ => ?_⟩
    · rw [upd_same]
      simp
    have i13 := i12.free (o := .lst (V.int 0 :: (S.f.log.map (fun p : Pc => V.int (p.at_ + L.way)) ++ []))) hl
    have t13 := Tabs.same (Tabs.same t11 e12) (same_upd hl (o := .lst (V.int 0 :: (S.f.log.map (fun p : Pc => V.int (p.at_ + L.way)) ++ []))))
    refine ⟨_, rfl, r, C.Run, dx, _, rfl, i13.ins, T.cl_Run, T.n_Run_quiet, by show 6 < 1000; decide, ?_⟩
    have i14 := i13.fld [("ends", .ref e), ("stuck", .bl bb), ("pieces", .ref pt), ("answers", .ref an), ("held", .ref hd), ("unread", .ref ur), ("quiet", .int qu)]
    have t14 := tabs_ins (o := .ins C.Run dx [("ends", .ref e), ("stuck", .bl bb), ("pieces", .ref pt), ("answers", .ref an), ("held", .ref hd), ("unread", .ref ur), ("quiet", .int qu)]) t13 i13.ins
    generalize hJ14 : L2.upd (L2.upd H12 l (.lst (V.int 0 :: (S.f.log.map (fun p : Pc => V.int (p.at_ + L.way)) ++ [])))) r (.ins C.Run dx [("ends", .ref e), ("stuck", .bl bb), ("pieces", .ref pt), ("answers", .ref an), ("held", .ref hd), ("unread", .ref ur), ("quiet", .int qu)]) = J14 at i14 t14
    refine goJ (J := J14) hJ14 ?_
    -- self.all
    refine ⟨_, rfl, r, C.Run, dx, _, _, rfl, i14.ins, T.cl_Run, T.n_Run_ends, rfl, _, rfl, r, C.Run, dx, _, _, rfl, i14.ins, T.cl_Run, T.n_Run_pieces, rfl, _, rfl, r, C.Run, dx, _, _, rfl, i14.ins, T.cl_Run, T.n_Run_held, rfl, _, rfl, r, C.Run, dx, _, _, rfl, i14.ins, T.cl_Run, T.n_Run_unread, rfl, _, rfl, r, C.Run, dx, _, _, rfl, i14.ins, T.cl_Run, T.n_Run_quiet, rfl, by show 5 ≤ sizeLine; decide, fun al hal => ?_⟩
    have i15 := i14.free (o := .tup [.ref e, .ref pt, .ref hd, .ref ur, .int qu]) hal
    have t15 := Tabs.same t14 (same_upd hal (o := .tup [.ref e, .ref pt, .ref hd, .ref ur, .int qu]))
    refine ⟨_, rfl, r, C.Run, dx, _, rfl, i15.ins, T.cl_Run, T.n_Run_all, by show 7 < 1000; decide, ?_⟩
    have i16 := i15.fld (fRun e pt an hd ur al bb qu)
    have t16 := tabs_ins (o := .ins C.Run dx (fRun e pt an hd ur al bb qu)) t15 i15.ins
    refine k _ (sC.trans i16.same) t16 ?_
    subst hbb
    exact ⟨dx, e, pt, an, hd, ur, al, qu, i16.ins, i16.same _ _ hee3, i16.same _ _ hhd3, i16.same _ _ hur3⟩
end
end Sh

namespace Sh
open PySem L2 PySem.Spec PyProof.Rows LamX
/-! ### the run -/
theorem opsOf_ok {x : Int} (hx : 1 ≤ x) (hx2 : x ≤ 2000) : ∀ {l : List Item} {ts : List Int}, (∀ it ∈ l, ItemOk it) → (∀ t ∈ ts, 0 ≤ t) → ∀ o ∈ opsOf x l ts, OpOk o ∧ cost o ≤ 8000
  | [], _, _, _, o, h => absurd h List.not_mem_nil
  | .write a :: l, ts, hl, ht, o, h => by
    rcases List.mem_cons.mp h with rfl | h
    · have := hl _ (List.mem_cons_self ..)
      cases a with
      | none => exact ⟨(show 0 < x by omega), (show 4 * x ≤ 8000 by omega)⟩
      | some n =>
        obtain ⟨h1, h2⟩ := this n rfl
        exact ⟨(show 0 < n by omega), (show 4 * n ≤ 8000 by omega)⟩
    · exact opsOf_ok hx hx2 (fun it hi => hl it (List.mem_cons_of_mem _ hi)) ht o h
  | .read a :: l, ts, hl, ht, o, h => by
    rcases List.mem_cons.mp h with rfl | h
    · have := hl _ (List.mem_cons_self ..)
      cases a with
      | none => exact ⟨(show 0 < x by omega), (show (0 : Int) ≤ 8000 by omega)⟩
      | some n =>
        obtain ⟨h1, h2⟩ := this n rfl
        exact ⟨(show 0 < n by omega), (show (0 : Int) ≤ 8000 by omega)⟩
    · exact opsOf_ok hx hx2 (fun it hi => hl it (List.mem_cons_of_mem _ hi)) ht o h
  | .pause lo hi :: l, t :: ts, hl, ht, o, h => by
    rcases List.mem_cons.mp h with rfl | h
    · exact ⟨ht t (List.mem_cons_self ..), (show (1 : Int) ≤ 8000 by omega)⟩
    · exact opsOf_ok hx hx2 (fun it hi => hl it (List.mem_cons_of_mem _ hi)) (fun t hi => ht t (List.mem_cons_of_mem _ hi)) o h
  | .pause lo hi :: l, [], hl, ht, o, h => by
    rcases List.mem_cons.mp h with rfl | h
    · exact ⟨(show (0 : Int) ≤ 0 by omega), (show (1 : Int) ≤ 8000 by omega)⟩
    · exact opsOf_ok hx hx2 (fun it hi => hl it (List.mem_cons_of_mem _ hi)) ht o h
theorem opsOf_len (x : Int) : ∀ (l : List Item) (ts : List Int), (opsOf x l ts).length = l.length
  | [], _ => rfl
  | .write a :: l, ts => congrArg Nat.succ (opsOf_len x l ts)
  | .read a :: l, ts => congrArg Nat.succ (opsOf_len x l ts)
  | .pause lo hi :: l, t :: ts => congrArg Nat.succ (opsOf_len x l ts)
  | .pause lo hi :: l, [] => congrArg Nat.succ (opsOf_len x l [])
theorem cost_sum : ∀ {l : List Op}, (∀ o ∈ l, cost o ≤ 8000) → (l.map cost).sum ≤ 8000 * (l.length : Int)
  | [], _ => by simp
  | o :: l, h => by
    have h1 := h o (List.mem_cons_self ..)
    have h2 := cost_sum (l := l) fun o ho => h o (List.mem_cons_of_mem _ ho)
    rw [List.map_cons, List.sum_cons, List.length_cons]
    omega
def progs (x : Int) (la lb : List Item) (ts : List Int) : Bool → List Op := fun b => if b then opsOf x lb (ts.drop (nPau la)) else opsOf x la ts
/-- all but the tables -/
def noT (H : Hp) : Hp := fun b => match H b with
  | some (.tbl _) => none
  | o => o
theorem noT_of {H : Hp} {b : Addr} {o : HO} (h : H b = some o) (n : ∀ ps, o ≠ .tbl ps) : noT H b = some o := by
  unfold noT
  rw [h]
  cases o <;> first | rfl | exact absurd rfl (n _)
theorem noT_get {H : Hp} {b : Addr} {o : HO} (h : noT H b = some o) : H b = some o ∧ ∀ ps, o ≠ .tbl ps := by
  unfold noT at h
  split at h
  · cases h
  · rename_i o' n
    refine ⟨h, fun ps e => ?_⟩
    subst e
    exact n ps h
theorem noT_none {H : Hp} {b : Addr} (h : H b = none) : noT H b = none := by unfold noT; rw [h]
theorem noT_same (H : Hp) : Same (noT H) H := fun b o h => (noT_get h).1
theorem noT_NT (H : Hp) : NT (noT H) := fun b ps h => (noT_get h).2 ps rfl
theorem ext_noT {H H' : Hp} (s : Same (noT H) H') : ExtN H H' := fun b o h n => s _ _ (noT_of h n)
theorem Tups.noT {H : Hp} {vs : List V} {rows : List (List V)} (h : Tups H vs rows) : Tups (noT H) vs rows := h.keep' fun _ _ e => noT_of e fun ps z => nomatch z
theorem SetAt.noT {C : AD} {H : Hp} {a : Addr} {s : Setg} (h : SetAt C H a s) : SetAt C (noT H) a s := by
  obtain ⟨dx, t, xs, h1, h2⟩ := h
  exact ⟨dx, t, xs, noT_of h1 (fun ps z => nomatch z), noT_of h2 (fun ps z => nomatch z)⟩
theorem LnZ.noT {C : AD} {H : Hp} {z : FZ} {L : Ln} (h : LnZ C H z L) : LnZ C (noT H) z L := by
  obtain ⟨⟨⟨dx, t, h1⟩, h2, h3⟩, h4⟩ := h
  exact ⟨⟨⟨dx, t, noT_of h1 (fun ps z => nomatch z)⟩, h2.noT, h3.noT⟩, noT_of h4 (fun ps z => nomatch z)⟩
theorem FlowAt.noT {C : AD} {B H : Hp} {p : Addr} {z : FZ} {L : Ln} {f : Fl} (h : FlowAt C B H p z L f) : FlowAt C (noT B) (noT H) p z L f := by
  obtain ⟨ad, r, fl, lg, h⟩ := h
  refine ⟨ad, r, fl, lg, ⟨fun b o e => noT_of (h.same _ _ (noT_get e).1) (noT_get e).2, noT_none h.p0, fun t => noT_none (h.a0 t), h.inj, noT_of h.ins (fun ps z => nomatch z), fun t => noT_of (h.at_ t) (fun ps z => nomatch z), fun b => (h.rs b).noT, h.fls.noT, h.lgs.noT, h.line.noT⟩⟩
/-- all that stands, but the flow's own things, into the base -/
theorem FlowR.grow {C : AD} {B H : Hp} {p : Addr} {z : FZ} {L : Ln} {f : Fl} {ad : Tg → Addr} {r : Bool → List V} {fl lg : List V} (h : FlowR C B H p z L ad r fl lg f) :
    ∃ B', FlowR C B' H p z L ad r fl lg f ∧ Same B B' ∧ ∀ b o, H b = some o → b ≠ p → (∀ t, b ≠ ad t) → B' b = some o := by
  classical
  refine ⟨fun b => if b = p ∨ ∃ t, b = ad t then none else H b, ?_, ?_, ?_⟩
  · have hs : Same B (fun b => if b = p ∨ ∃ t, b = ad t then none else H b) := fun b o e => by
      show (if b = p ∨ ∃ t, b = ad t then none else H b) = _
      rw [if_neg]
      · exact h.same _ _ e
      · rintro (q | ⟨t, q⟩)
        · rw [q, h.p0] at e; cases e
        · rw [q, h.a0] at e; cases e
    refine ⟨fun b o e => ?_, if_pos (.inl rfl), fun t => if_pos (.inr ⟨t, rfl⟩), h.inj, h.ins, h.at_, h.rs, h.fls, h.lgs, h.line.same hs⟩
    have e : (if b = p ∨ ∃ t, b = ad t then none else H b) = some o := e
    split at e
    · cases e
    · exact e
  · exact fun b o e => by
      show (if b = p ∨ ∃ t, b = ad t then none else H b) = _
      rw [if_neg]
      · exact h.same _ _ e
      · rintro (q | ⟨t, q⟩)
        · rw [q, h.p0] at e; cases e
        · rw [q, h.a0] at e; cases e
  · intro b o e n1 n2
    show (if b = p ∨ ∃ t, b = ad t then none else H b) = _
    rw [if_neg]
    · exact e
    · rintro (q | ⟨t, q⟩)
      · exact n1 q
      · exact n2 t q
def sprun_of (_ : PySem.W.Frag) (C : AD) : Sp := fun vs H Q _ => ∃ (ln near far a b tk : Addr) (L : Ln) (x : Int) (va vb : List V) (la lb : List Item) (ts : List Int), vs = [.ref ln, .ref a, .ref b, .int x, .ref tk] ∧ LineAt C H ln near far L ∧ LnOk L ∧
  ProgAt H a va la ∧ ProgAt H b vb lb ∧ (∀ it ∈ la, ItemOk it) ∧ (∀ it ∈ lb, ItemOk it) ∧ la.length ≤ 6 ∧ lb.length ≤ 6 ∧ 1 ≤ x ∧ x ≤ 2000 ∧ H tk = some (.tup (ts.map V.int)) ∧ ts.length = nPau la + nPau lb ∧ (∀ t ∈ ts, 0 ≤ t) ∧ Tabs (TT C) H ∧
  ∀ H' r S, ExtN H H' → Tabs (TT C) H' → Done L (progs x la lb ts) S → RunAt C H' r S → Q (.ref r) H'
theorem drop_drop' {ts : List Int} {n : Nat} : ∀ t ∈ ts.drop n, t ∈ ts := fun t h => List.mem_of_mem_drop h
section
variable {P : Program} {w : World} {K : PySem.W.Frag} {mg : Str → Option Value} {base : Heap} {C : AD}
abbrev srun_of : Stmt := topS 44
theorem scrun_of : FnScope ["line", "one", "other", "x", "pauses", "flow", "first", "left", "second", "courses", "tick"] ["line", "one", "other", "x", "pauses"] (defScope srun_of) := ⟨rfl, rfl, rfl, by decide +kernel, rfl, by decide +kernel, by decide +kernel⟩
theorem okrun_of {f : Addr} {fd : FuncData} (F : Fun K "run_of" "run_of" srun_of f fd) (T : Txt K mg C)
    (Mevents : GOk P w K mg base "events" 2 ["flow", "courses"] (spevents K C))
    (Mdo_tick : GOk P w K mg base "do_tick" 7 ["flow", "courses", "tick"] (spdo_tick K C))
    (Mplain_steps : GOk P w K mg base "plain_steps" 1 ["program", "x", "ticks"] (spplain_steps K C))
    (MRun___init__ : IOk P w K mg base C.Run 2 ["self", "flow", "courses"] (spRun___init__ K C))
    (MCourse___init__ : IOk P w K mg base C.Course 1 ["self", "steps", "again"] (spCourse___init__ K C))
    (MFlow___init__ : IOk P w K mg base C.Flow 1 ["self", "line"] (spFlow___init__ K C)) :
    FnOk P w K mg base CX0 8 f fd ["line", "one", "other", "x", "pauses"] (sprun_of K C) := by
  obtain ⟨_, _, Gevents, bevents, gevents, kevents⟩ := Mevents.ex
  obtain ⟨_, _, Gdo_tick, bdo_tick, gdo_tick, kdo_tick⟩ := Mdo_tick.ex
  obtain ⟨_, _, Gplain_steps, bplain_steps, gplain_steps, kplain_steps⟩ := Mplain_steps.ex
  obtain ⟨_, _, GRun___init__, bRun___init__, MRun⟩ := MRun___init__.ex
  obtain ⟨_, _, GCourse___init__, bCourse___init__, MCourse⟩ := MCourse___init__.ex
  obtain ⟨_, _, GFlow___init__, bFlow___init__, MFlow⟩ := MFlow___init__.ex
  refine F.ok scrun_of (fun vs H Q E h => ?_) (fun cdv A outer s H vs Q E hr h => ?_)
  · obtain ⟨ln, near, far, a, b, tk, L, x, va, vb, la, lb, ts, rfl, _⟩ := h
    rfl
  · obtain ⟨ln, near, far, a, b, tk, L, x, va, vb, la, lb, ts, rfl, hln, hL, ha, hb, oka, okb, l1, l2, x1, x2, htk, hts, hts0, tT, k⟩ := h
    refine ⟨_, (pss_cons (ps_set (i := 5) scrun_of.nd rfl (Or.inl rfl) (pe_make MFlow GFlow___init__ (hr.mono (by decide)) (by rfl) T.m_Flow bFlow___init__ .nil pass0 (pa_cons (pv 0) pa_nil)))
      (pss_cons (ps_asg (pe_call Gplain_steps (hr.mono (by decide)) (by rfl) gplain_steps kplain_steps bplain_steps .nil pass0 (pa_cons (pv 1) (pa_cons (pv 3) (pa_cons (pv 4) pa_nil)))) (pg_tup rfl (pgs_cons (pg_name (i := 6) scrun_of.nd rfl (Or.inl rfl)) (pgs_cons (pg_name (i := 7) scrun_of.nd rfl (Or.inl rfl)) pgs_nil))))
      (pss_cons (ps_asg (pe_call Gplain_steps (hr.mono (by decide)) (by rfl) gplain_steps kplain_steps bplain_steps .nil pass0 (pa_cons (pv 2) (pa_cons (pv 3) (pa_cons (pv 7) pa_nil)))) (pg_tup rfl (pgs_cons (pg_name (i := 8) scrun_of.nd rfl (Or.inl rfl)) (pgs_cons (pg_name (i := 7) scrun_of.nd rfl (Or.inl rfl)) pgs_nil))))
      (pss_cons (ps_set (i := 9) scrun_of.nd rfl (Or.inl rfl) (pe_tup (pa_cons (pe_make MCourse GCourse___init__ (hr.mono (by decide)) (by rfl) T.m_Course bCourse___init__ .nil pass0 (pa_cons (pv 6) (pa_cons pe_bl pa_nil))) (pa_cons (pe_make MCourse GCourse___init__ (hr.mono (by decide)) (by rfl) T.m_Course bCourse___init__ .nil pass0 (pa_cons (pv 8) (pa_cons pe_bl pa_nil))) pa_nil))))
      (pss_cons (ps_set (i := 10) scrun_of.nd rfl (Or.inl rfl) pe_int)
      (pss_cons (ps_while PassesOwn.never (pt_cmpR op_notN (pv 10) pe_non (nomark _)) (pss_cons (ps_expr (pe_call Gdo_tick (hr.mono (by decide)) (by rfl) gdo_tick kdo_tick bdo_tick .nil pass0 (pa_cons (pv 5) (pa_cons (pv 9) (pa_cons (pv 10) pa_nil)))))
      (pss_one (ps_set (i := 10) scrun_of.nd rfl (Or.inl rfl) (pe_call Gevents (hr.mono (by decide)) (by rfl) gevents kevents bevents .nil pass0 (pa_cons (pv 5) (pa_cons (pv 9) pa_nil)))))))
      (pss_one (ps_ret (pe_make MRun GRun___init__ (hr.mono (by decide)) (by rfl) T.m_Run bRun___init__ .nil pass0 (pa_cons (pv 5) (pa_cons (pv 9) pa_nil))))))))))), ?_⟩
    -- flow = Flow(line)
    refine ⟨_, rfl, fun p dx hp hdx hne => ?_⟩
    have s0 : Same H (L2.upd (L2.upd H dx (.own p)) p (.ins C.Flow dx [])) := Same.upd0 (same_upd hdx) hp
    refine ⟨H, p, dx, ln, near, far, L, rfl, upd_same, s0, hp, hln, fun H1 stg hstg hf1 => ⟨rfl, ?_⟩⟩
    have hst0 : H stg = none := s0.free hstg
    have sB1 : Same H (L2.upd H stg (.tup [.ref near, .ref far])) := same_upd hst0
    obtain ⟨ad, rr, fl, lg, hf⟩ := hf1
    generalize L2.upd H stg (.tup [.ref near, .ref far]) = B1 at hf sB1
    have s1 : Same H H1 := sB1.trans hf.same
    -- first, left = plain_steps(one, x, pauses)
    have nle : nPau la ≤ ts.length := by omega
    refine ⟨_, rfl, _, rfl, _, rfl, a, x, tk, va, la, ts, rfl, ha.same s1, .inr (SqT.of (s1 _ _ htk)), nle, l1, fun H2 T2 F1 R1 fv1 nF1 s2 hT2 hF1 hfv1 hR1 => ?_⟩
    refine ⟨T2, _, rfl, SqT.of hT2, rfl, _, _, rfl, _, _, rfl, rfl, ?_⟩
    -- second, left = plain_steps(other, x, left)
    have s12 := s1.trans s2
    refine ⟨_, rfl, _, rfl, _, rfl, b, x, R1, vb, lb, ts.drop (nPau la), rfl, hb.same s12, .inl (SqL.of hR1), by rw [List.length_drop]; omega, l2, fun H3 T3 F2 R2 fv2 nF2 s3 hT3 hF2 hfv2 hR2 => ?_⟩
    refine ⟨T3, _, rfl, SqT.of hT3, rfl, _, _, rfl, _, _, rfl, rfl, ?_⟩
    have s23 := s2.trans s3
    have hf3 := hf.ext s23
    obtain ⟨B3, hfB, sB3, hB3⟩ := hf3.grow
    have bF1 : B3 F1 = some (.lst fv1) := hB3 _ _ (s3 _ _ hF1) (ne_of_none hf.ins nF1).symm fun t => (ne_of_none (hf.at_ t) nF1).symm
    have bF2 : B3 F2 = some (.lst fv2) := hB3 _ _ hF2 (ne_of_none (s2 _ _ hf.ins) nF2).symm fun t => (ne_of_none (s2 _ _ (hf.at_ t)) nF2).symm
    have tupB : ∀ c xs, H3 c = some (.tup xs) → B3 c = some (.tup xs) := fun c xs e => hB3 _ _ e (fun z => by rw [z, hf3.ins] at e; cases e) fun t z => by rw [z, hf3.at_ t] at e; cases e
    have rB1 : Tups B3 fv1 ((opsOf x la ts).map rowO) := hfv1.keep' fun c xs e => tupB c xs (s3 _ _ e)
    have rB2 : Tups B3 fv2 ((opsOf x lb (ts.drop (nPau la))).map rowO) := hfv2.keep' tupB
    have lz : LnZ C B3 ⟨dx, ln, near, far, stg⟩ L := hfB.line
    have sHB : Same H B3 := sB1.trans sB3
    -- courses
    refine ⟨_, rfl, fun q1 d1 hq1 hd1 hn1 => ?_⟩
    have c1 : Same H3 (L2.upd (L2.upd H3 d1 (.own q1)) q1 (.ins C.Course d1 [])) := Same.upd0 (same_upd hd1) hq1
    have lf1 : fv1.length = (opsOf x la ts).length := by
      have := hfv1.length
      rw [List.length_map] at this
      exact this
    have lf2 : fv2.length = (opsOf x lb (ts.drop (nPau la))).length := by
      have := hfv2.length
      rw [List.length_map] at this
      exact this
    refine ⟨H3, q1, d1, F1, opsOf x la ts, fv1, rfl, upd_same, c1, hq1, s3 _ _ hF1, lf1, fun H4 bg1 s4 hc1 => ⟨rfl, ?_⟩⟩
    refine ⟨_, rfl, fun q2 d2 hq2 hd2 hn2 => ?_⟩
    have c2 : Same H4 (L2.upd (L2.upd H4 d2 (.own q2)) q2 (.ins C.Course d2 [])) := Same.upd0 (same_upd hd2) hq2
    refine ⟨H4, q2, d2, F2, opsOf x lb (ts.drop (nPau la)), fv2, rfl, upd_same, c2, hq2, s4 _ _ hF2, lf2, fun H5 bg2 s5 hc2 => ⟨rfl, ?_⟩⟩
    refine ⟨by show 2 ≤ sizeLine; decide, fun cs hcs => ?_⟩
    have s6 : Same H5 (L2.upd H5 cs (.tup [.ref q1, .ref q2])) := same_upd hcs
    have hp3 := hf3.ins
    have q1p : q1 ≠ p := (ne_of_none hp3 hq1).symm
    have hq1_5 : H5 q1 = some (coO C ⟨d1, F1, bg1⟩ (co0 (opsOf x la ts))) := s5 _ _ hc1
    have q12 : q1 ≠ q2 := ne_of_none hc1 hq2
    have s35 : Same H3 H5 := s4.trans s5
    have s36 := s35.trans s6
    have q2p : q2 ≠ p := (ne_of_none (s4 _ _ hp3) hq2).symm
    have csp : cs ≠ p := (ne_of_none (s35 _ _ hp3) hcs).symm
    have csq1 : cs ≠ q1 := (ne_of_none hq1_5 hcs).symm
    have csq2 : cs ≠ q2 := (ne_of_none hc2 hcs).symm
    have free3 : ∀ c, H3 c = none → B3 c = none := fun c e => hfB.same.free e
    have q2_3 : H3 q2 = none := s4.free hq2
    have cs_3 : H3 cs = none := s35.free hcs
    have hq1_6 := s6 _ _ hq1_5
    have hq2_6 := s6 _ _ hc2
    generalize hP : progs x la lb ts = PP at k
    have ePf : PP false = opsOf x la ts := by rw [← hP]; rfl
    have ePt : PP true = opsOf x lb (ts.drop (nPau la)) := by rw [← hP]; rfl
    have hH6 : (L2.upd H5 cs (.tup [.ref q1, .ref q2])) cs = some (.tup [.ref q1, .ref q2]) := upd_same
    generalize L2.upd H5 cs (.tup [.ref q1, .ref q2]) = H6 at s6 s36 hq1_6 hq2_6 hH6
    have fA : FlowAt C (L2.upd B3 cs (.tup [.ref q1, .ref q2])) H6 p ⟨dx, ln, near, far, stg⟩ L fl0 := (hfB.mk'.ext s36).up hH6 csp (fun l z => nomatch z) (free3 _ cs_3)
    have fB : FlowAt C (L2.upd (L2.upd B3 cs (.tup [.ref q1, .ref q2])) q1 (coO C ⟨d1, F1, bg1⟩ (co0 (opsOf x la ts)))) H6 p ⟨dx, ln, near, far, stg⟩ L fl0 := fA.up hq1_6 q1p (fun l z => nomatch z) (by rw [upd_ne csq1.symm]; exact free3 _ hq1)
    have fC := fB.up hq2_6 q2p (fun l z => nomatch z) (by rw [upd_ne q12.symm, upd_ne csq2.symm]; exact free3 _ q2_3)
    have sB4 : Same B3 (L2.upd B3 cs (.tup [.ref q1, .ref q2])) := same_upd (free3 _ cs_3)
    have hBcs : (L2.upd B3 cs (.tup [.ref q1, .ref q2])) cs = some (.tup [.ref q1, .ref q2]) := upd_same
    have sy : SY C (L2.upd B3 cs (.tup [.ref q1, .ref q2])) H6 p ⟨dx, ln, near, far, stg⟩ L (fun b => if b then q2 else q1) (fun b => if b then ⟨d2, F2, bg2⟩ else ⟨d1, F1, bg1⟩) (sy0 PP) := by
      refine ⟨?_, fun b => ?_, q12, lz.same sB4, fun b => ?_⟩
      · have e : sysB C (L2.upd B3 cs (.tup [.ref q1, .ref q2])) (fun b => if b then q2 else q1) (fun b => if b then ⟨d2, F2, bg2⟩ else ⟨d1, F1, bg1⟩) (sy0 PP) = L2.upd (L2.upd (L2.upd B3 cs (.tup [.ref q1, .ref q2])) q1 (coO C ⟨d1, F1, bg1⟩ (co0 (opsOf x la ts)))) q2 (coO C ⟨d2, F2, bg2⟩ (co0 (opsOf x lb (ts.drop (nPau la))))) := by
          rw [← ePf, ← ePt]; rfl
        rw [e]
        exact fC
      · cases b
        · show (L2.upd B3 cs _) q1 = none
          rw [upd_ne csq1.symm]; exact free3 _ hq1
        · show (L2.upd B3 cs _) q2 = none
          rw [upd_ne csq2.symm]; exact free3 _ q2_3
      · cases b
        · exact ⟨fv1, sB4 _ _ bF1, by show Tups _ _ ((PP false).map rowO); rw [ePf]; exact rB1.keep' fun _ _ e => sB4 _ _ e⟩
        · exact ⟨fv2, sB4 _ _ bF2, by show Tups _ _ ((PP true).map rowO); rw [ePt]; exact rB2.keep' fun _ _ e => sB4 _ _ e⟩
    have sHB4 := sHB.trans sB4
    generalize L2.upd B3 cs (.tup [.ref q1, .ref q2]) = BB at sy hBcs sHB4
    generalize hqq : (fun b : Bool => if b then q2 else q1) = qq at sy
    generalize (fun b : Bool => if b then (⟨d2, F2, bg2⟩ : CoZ) else ⟨d1, F1, bg1⟩) = yy at sy
    have hBcs' : BB cs = some (.tup [.ref (qq false), .ref (qq true)]) := by rw [← hqq]; exact hBcs
    -- bounds
    have okP : ∀ b, ∀ o ∈ PP b, OpOk o ∧ cost o ≤ 8000 := fun b => by
      cases b
      · rw [ePf]; exact opsOf_ok x1 x2 oka hts0
      · rw [ePt]; exact opsOf_ok x1 x2 okb fun t ht => hts0 t (drop_drop' t ht)
    have okO : ∀ b, ∀ o ∈ PP b, OpOk o := fun b o ho => (okP b o ho).1
    have lenP : ∀ b, (PP b).length ≤ 6 := fun b => by
      cases b
      · rw [ePf, opsOf_len]; exact l1
      · rw [ePt, opsOf_len]; exact l2
    generalize hMM : ((PP false).map cost).sum + ((PP true).map cost).sum = M
    have hM : M ≤ 1000000 := by
      have h1 := cost_sum fun o ho => (okP false o ho).2
      have h2 := cost_sum fun o ho => (okP true o ho).2
      have h3 := lenP false
      have h4 := lenP true
      omega
    have ok0 : SyOk M (sy0 PP) := by rw [← hMM]; exact sy0_ok okO
    have okR : ∀ {S : Sy}, Reach L PP S → SyOk M S := fun {S} h => by rw [← hMM]; exact reach_ok hL okO h
    have stR : ∀ {S : Sy}, Reach L PP S → ∀ b, (S.c b).steps.length ≤ 1000 := fun {S} h b => by
      rw [reach_steps h b]
      have := lenP b
      omega
    -- the loop
    refine ⟨fun m σ H' => ∃ (S : Sy) (v : V), σ = [some (.ref ln), some (.ref a), some (.ref b), some (.int x), some (.ref tk), some (.ref p), some (.ref F1), some (.ref R2), some (.ref F2), some (.ref cs), some v] ∧ SY C BB H' p ⟨dx, ln, near, far, stg⟩ L qq yy S ∧
      ((S = sy0 PP ∧ v = .int 0 ∧ m = (psi (doTick L (sy0 PP) 0)).toNat + 2) ∨ (Reach L PP S ∧ MinV (evs L S) v ∧ m = (psi S).toNat + 1)),
      ⟨_, sy0 PP, .int 0, rfl, sy, .inl ⟨rfl, rfl, rfl⟩⟩, ?_⟩
    rintro m σ H' ⟨S, v, rfl, hS, hv⟩
    refine ⟨_, rfl, rfl, _, rfl, ?_⟩
    by_cases hvn : v = .non
    · refine iteN (by simp [hvn]) ?_
      subst hvn
      -- return Run(flow, courses)
      rcases hv with ⟨_, h2, _⟩ | ⟨hR, hv, _⟩
      · cases h2
      have dn : Done L PP S := by
        refine ⟨hR, ?_⟩
        rcases hv with ⟨h, _⟩ | ⟨t, _, h⟩
        · exact h
        · cases h
      have okS := okR hR
      have tB : Tabs (TT C) H' := Tabs.same (Tabs.same tT sHB4) hS.sub
      refine ⟨_, rfl, _, rfl, fun r d hr hd hn => ?_⟩
      have sR : Same H' (L2.upd (L2.upd H' d (.own r)) r (.ins C.Run d [])) := Same.upd0 (same_upd hd) hr
      have le1 : M - rem (S.c false) - rem (S.c true) ≤ 1000000 := by
        have := rem_nonneg (okS.co false)
        have := rem_nonneg (okS.co true)
        omega
      refine ⟨noT H', _, r, d, p, cs, ⟨dx, ln, near, far, stg⟩, L, qq, yy, S, _, rfl, (noT_same H').trans sR, noT_NT H', noT_none hr, upd_same, hS.fl.noT, noT_of (hS.sub _ _ hBcs') (fun ps z => nomatch z), fun b => noT_of (hS.at_ b) (fun ps z => nomatch z), okS.ok, le1, Tabs.same tB sR, fun H9 s9 t9 r9 => ⟨rfl, ?_⟩⟩
      refine k H9 r S (fun b o e n => ?_) t9 dn r9
      exact s9 _ _ (noT_of (hS.sub _ _ (sHB4 _ _ e)) n)
    · refine iteY (by simp [hvn]) ?_
      obtain ⟨t, rfl, okS, stS, hstep⟩ : ∃ t, v = .int t ∧ SyOk M S ∧ (∀ b, (S.c b).steps.length ≤ 1000) ∧ Reach L PP (doTick L S t) ∧ (psi (doTick L S t)).toNat + 1 < m := by
        rcases hv with ⟨rfl, h2, h3⟩ | ⟨hR, hv, h3⟩
        · exact ⟨0, h2, ok0, fun b => by have := lenP b; show (PP b).length ≤ 1000; omega, .start, by omega⟩
        · rcases hv with ⟨_, h⟩ | ⟨t, ht, h⟩
          · exact absurd h hvn
          · have okS := okR hR
            have h4 := doTick_psi (t := t) hL okS ht.1
            have h5 := psi_nonneg (doTick_ok hL okS t)
            exact ⟨t, h, okS, stR hR, .step hR ht, by omega⟩
      refine ⟨_, fun _ _ n => n, ?_⟩
      refine ⟨_, rfl, _, rfl, _, rfl, BB, p, cs, ⟨dx, ln, near, far, stg⟩, L, qq, yy, S, t, M, rfl, hS, hBcs', hL, okS, hM, stS, fun H7 h7 => ?_⟩
      have ok7 := okR hstep.1
      have le7 : M - rem ((doTick L S t).c false) - rem ((doTick L S t).c true) ≤ 1000000 := by
        have := rem_nonneg (ok7.co false)
        have := rem_nonneg (ok7.co true)
        omega
      refine ⟨_, rfl, _, rfl, BB, p, cs, ⟨dx, ln, near, far, stg⟩, L, qq, yy, doTick L S t, _, rfl, h7, hBcs', ok7.ok, le7, fun H8 v8 s8 m8 => ?_⟩
      exact ⟨_, hstep.2, doTick L S t, v8, rfl, h7.ext s8, .inr ⟨hstep.1, m8, rfl⟩⟩
end
end Sh

namespace Sh
open PySem L2 PySem.Spec PyProof.Rows LamX
/-- three by place, two by name -/
def gK {α : Type} (us ws : List α) : List α := match us, ws with
  | [a, b, c], [d, e] => [a, b, c, d, e]
  | _, _ => []
structure KOk (P : Program) (w : World) (K : PySem.W.Frag) (mg : Str → Option Value) (base : Heap) (nm : Str) (k : Nat) (ps ks : List Str) (sp : Sp) : Prop where
  ex : ∃ f fd, FnOk P w K mg base CX0 k f fd ps sp ∧ KBinds K fd ps ks gK gK ∧ mg nm = some (.ref f) ∧ PySem.W.keepIn K (.ref f) = true
/-- what a run is asked with -/
structure Ask (C : AD) (H : Hp) (ln near far a b tk : Addr) (L : Ln) (x : Int) (va vb : List V) (la lb : List Item) (ts : List Int) : Prop where
  line : LineAt C H ln near far L
  ok : LinOk L
  pa : ProgAt H a va la
  pb : ProgAt H b vb lb
  oka : ∀ it ∈ la, ItemOk it
  okb : ∀ it ∈ lb, ItemOk it
  l1 : la.length ≤ 6
  l2 : lb.length ≤ 6
  x1 : 1 ≤ x
  x2 : x ≤ 2000
  tk : H tk = some (.tup (ts.map V.int))
  fit : Fits ts ((la ++ lb).filter isPau)
def spcheck_run (_ : PySem.W.Frag) (C : AD) : Sp := fun vs H Q _ => ∃ (ln near far a b : Addr) (L : Ln) (va vb : List V) (la lb : List Item), vs = [.ref ln, .ref a, .ref b] ∧ LineAt C H ln near far L ∧ ProgAt H a va la ∧ ProgAt H b vb lb ∧
  (∀ it ∈ la, ItemOk it) ∧ (∀ it ∈ lb, ItemOk it) ∧ la.length ≤ 6 ∧ lb.length ≤ 6 ∧ ∀ H', Same H H' → Q .non H'
def sprun (_ : PySem.W.Frag) (C : AD) : Sp := fun vs H Q _ => ∃ (ln near far a b tk : Addr) (L : Ln) (x : Int) (va vb : List V) (la lb : List Item) (ts : List Int), vs = [.ref ln, .ref a, .ref b, .int x, .ref tk] ∧ Ask C H ln near far a b tk L x va vb la lb ts ∧ Tabs (TT C) H ∧
  ∀ H' r S, ExtN H H' → Tabs (TT C) H' → Done L (progs x la lb ts) S → RunAt C H' r S → Q (.ref r) H'
theorem fits_pos {ts : List Int} {l : List Item} (h : Fits ts l) (hp : ∀ it ∈ l, isPau it = true) (ok : ∀ it ∈ l, ItemOk it) : ∀ t ∈ ts, 0 ≤ t := fun t ht => by
  obtain ⟨i, hi, e⟩ := List.getElem_of_mem ht
  have h1 : ts[i]? = some t := by rw [List.getElem?_eq_getElem hi, e]
  have hl : i < l.length := by rw [← h.len]; exact hi
  have h2 : l[i]? = some l[i] := List.getElem?_eq_getElem hl
  have hm := List.getElem_mem hl
  cases e3 : l[i] with
  | write a => have := hp _ hm; rw [e3] at this; cases this
  | read a => have := hp _ hm; rw [e3] at this; cases this
  | pause lo hi' =>
    rw [e3] at h2 hm
    have h4 := h.fit i t lo hi' h1 h2
    obtain ⟨h5, _, _⟩ : 0 ≤ lo ∧ lo ≤ hi' ∧ hi' ≤ 200 := ok _ hm
    omega
section
variable {P : Program} {w : World} {K : PySem.W.Frag} {mg : Str → Option Value} {base : Heap} {C : AD}
abbrev scheck_run : Stmt := topS 45
theorem sccheck_run : FnScope ["line", "one", "other"] ["line", "one", "other"] (defScope scheck_run) := ⟨rfl, rfl, rfl, by decide +kernel, rfl, by decide +kernel, by decide +kernel⟩
theorem okcheck_run {f : Addr} {fd : FuncData} (F : Fun K "check_run" "check_run" scheck_run f fd) (T : Txt K mg C)
    (Mcheck_program : GOk P w K mg base "check_program" 5 ["value"] (spcheck_program K C))
    (Mcheck_line : GOk P w K mg base "check_line" 1 ["value"] (spcheck_line K C)) :
    FnOk P w K mg base CX0 6 f fd ["line", "one", "other"] (spcheck_run K C) := by
  obtain ⟨_, _, Gcheck_program, bcheck_program, gcheck_program, kcheck_program⟩ := Mcheck_program.ex
  obtain ⟨_, _, Gcheck_line, bcheck_line, gcheck_line, kcheck_line⟩ := Mcheck_line.ex
  refine F.ok sccheck_run (fun vs H Q E h => ?_) (fun cdv A outer s H vs Q E hr h => ?_)
  · obtain ⟨ln, near, far, a, b, L, va, vb, la, lb, rfl, _⟩ := h
    rfl
  · obtain ⟨ln, near, far, a, b, L, va, vb, la, lb, rfl, hl, ha, hb, oka, okb, l1, l2, k⟩ := h
    refine ⟨_, (pss_cons (ps_expr (pe_call Gcheck_line (hr.mono (by decide)) (by rfl) gcheck_line kcheck_line bcheck_line .nil pass0 (pa_cons (pv 0) pa_nil)))
      (pss_cons (ps_expr (pe_call Gcheck_program (hr.mono (by decide)) (by rfl) gcheck_program kcheck_program bcheck_program .nil pass0 (pa_cons (pv 1) pa_nil)))
      (pss_one (ps_expr (pe_call Gcheck_program (hr.mono (by decide)) (by rfl) gcheck_program kcheck_program bcheck_program .nil pass0 (pa_cons (pv 2) pa_nil)))))), ?_⟩
    refine ⟨_, rfl, ln, near, far, L, rfl, hl, ?_⟩
    refine ⟨_, rfl, a, va, la, rfl, ha, oka, l1, fun H1 s1 => ?_⟩
    exact ⟨_, rfl, b, vb, lb, rfl, hb.same s1, okb, l2, fun H2 s2 => k _ (s1.trans s2)⟩
abbrev srun : Stmt := topS 46
theorem scrun : FnScope ["line", "one", "other", "x", "pauses"] ["line", "one", "other", "x", "pauses"] (defScope srun) := ⟨rfl, rfl, rfl, by decide +kernel, rfl, by decide +kernel, by decide +kernel⟩
theorem okrun {f : Addr} {fd : FuncData} (F : Fun K "run" "run" srun f fd) (T : Txt K mg C)
    (Mrun_of : GOk P w K mg base "run_of" 8 ["line", "one", "other", "x", "pauses"] (sprun_of K C))
    (Mcheck_pauses : GOk P w K mg base "check_pauses" 3 ["value", "one", "other"] (spcheck_pauses K C))
    (Mcheck_size : GOk P w K mg base "check_size" 4 ["value"] (spcheck_size K C))
    (Mcheck_run : GOk P w K mg base "check_run" 6 ["line", "one", "other"] (spcheck_run K C)) :
    FnOk P w K mg base CX0 9 f fd ["line", "one", "other", "x", "pauses"] (sprun K C) := by
  obtain ⟨_, _, Grun_of, brun_of, grun_of, krun_of⟩ := Mrun_of.ex
  obtain ⟨_, _, Gcheck_pauses, bcheck_pauses, gcheck_pauses, kcheck_pauses⟩ := Mcheck_pauses.ex
  obtain ⟨_, _, Gcheck_size, bcheck_size, gcheck_size, kcheck_size⟩ := Mcheck_size.ex
  obtain ⟨_, _, Gcheck_run, bcheck_run, gcheck_run, kcheck_run⟩ := Mcheck_run.ex
  refine F.ok scrun (fun vs H Q E h => ?_) (fun cdv A outer s H vs Q E hr h => ?_)
  · obtain ⟨ln, near, far, a, b, tk, L, x, va, vb, la, lb, ts, rfl, _⟩ := h
    rfl
  · obtain ⟨ln, near, far, a, b, tk, L, x, va, vb, la, lb, ts, rfl, A1, tT, k⟩ := h
    refine ⟨_, (pss_cons (ps_expr (pe_call Gcheck_run (hr.mono (by decide)) (by rfl) gcheck_run kcheck_run bcheck_run .nil pass0 (pa_cons (pv 0) (pa_cons (pv 1) (pa_cons (pv 2) pa_nil)))))
      (pss_cons (ps_expr (pe_call Gcheck_size (hr.mono (by decide)) (by rfl) gcheck_size kcheck_size bcheck_size .nil pass0 (pa_cons (pv 3) pa_nil)))
      (pss_cons (ps_if (pt_cmpR op_isN (pv 4) pe_non (nomark _)) (pss_one ps_never) pss_nil)
      (pss_cons (ps_expr (pe_call Gcheck_pauses (hr.mono (by decide)) (by rfl) gcheck_pauses kcheck_pauses bcheck_pauses .nil pass0 (pa_cons (pv 4) (pa_cons (pv 1) (pa_cons (pv 2) pa_nil)))))
      (pss_one (ps_ret (pe_call Grun_of (hr.mono (by decide)) (by rfl) grun_of krun_of brun_of .nil pass0 (pa_cons (pv 0) (pa_cons (pv 1) (pa_cons (pv 2) (pa_cons (pv 3) (pa_cons (pv 4) pa_nil)))))))))))), ?_⟩
    refine ⟨_, rfl, _, rfl, _, rfl, ln, near, far, a, b, L, va, vb, la, lb, rfl, A1.line, A1.pa, A1.pb, A1.oka, A1.okb, A1.l1, A1.l2, fun H1 s1 => ?_⟩
    refine ⟨_, rfl, x, rfl, A1.x1, A1.x2, ?_⟩
    refine ⟨_, rfl, rfl, _, rfl, iteN (by simp) ?_⟩
    refine ⟨_, rfl, _, rfl, _, rfl, tk, a, b, ts, va, vb, la, lb, rfl, s1 _ _ A1.tk, A1.pa.same s1, A1.pb.same s1, A1.l1, A1.l2, A1.fit, fun H2 s2 => ?_⟩
    have s12 := s1.trans s2
    have e : ts.length = nPau la + nPau lb := by
      rw [A1.fit.len, List.filter_append, List.length_append]; rfl
    have hpos := fits_pos A1.fit (fun it h => (List.mem_filter.mp h).2) (fun it h => by
      rcases List.mem_append.mp (List.mem_filter.mp h).1 with q | q
      · exact A1.oka _ q
      · exact A1.okb _ q)
    refine ⟨_, rfl, _, rfl, _, rfl, _, rfl, _, rfl, ln, near, far, a, b, tk, L, x, va, vb, la, lb, ts, rfl, A1.line.same s12, A1.ok.ok, A1.pa.same s12, A1.pb.same s12, A1.oka, A1.okb, A1.l1, A1.l2, A1.x1, A1.x2, s12 _ _ A1.tk, e, hpos, Tabs.same tT s12, fun H3 r S e3 t3 d3 r3 => ?_⟩
    exact k H3 r S (fun b o q n => e3 b o (s12 _ _ q) n) t3 d3 r3
end
end Sh

namespace Sh
open PySem L2 PySem.Spec PyProof.Rows LamX
/-! ### the law's mill -/
def MillAt (H : Hp) (m : Addr) : Prop := ∃ a b c : Int, H m = some (.lst [.int a, .int b, .int c]) ∧ 0 ≤ a ∧ 0 ≤ c
/-- all stays but m -/
def SameB (m : Addr) (H H' : Hp) : Prop := ∀ b o, b ≠ m → H b = some o → H' b = some o
theorem SameB.refl (m : Addr) (H : Hp) : SameB m H H := fun _ _ _ h => h
theorem SameB.trans {m : Addr} {H H1 H2 : Hp} (a : SameB m H H1) (b : SameB m H1 H2) : SameB m H H2 := fun c o n h => b c o n (a c o n h)
theorem SameB.of {m : Addr} {H H' : Hp} (s : Same H H') : SameB m H H' := fun b o _ h => s b o h
theorem SameB.put {m : Addr} {H : Hp} {o : HO} : SameB m H (L2.upd H m o) := fun b u n h => by rw [upd_ne n]; exact h
theorem MillAt.same {H H' : Hp} {m : Addr} (h : MillAt H m) (s : Same H H') : MillAt H' m := by
  obtain ⟨a, b, c, h, r⟩ := h
  exact ⟨a, b, c, s _ _ h, r⟩
theorem MillAt.ne {H : Hp} {m x : Addr} (h : MillAt H m) (hx : H x = none) : x ≠ m := by
  obtain ⟨a, b, c, h, r⟩ := h
  exact (ne_of_none h hx).symm
theorem MillAt.neT {H : Hp} {m x : Addr} {xs : List V} (h : MillAt H m) (hx : H x = some (.tup xs)) : x ≠ m := by
  obtain ⟨a, b, c, h, r⟩ := h
  exact ne_of hx h fun z => nomatch z
theorem SameB.tup {m x : Addr} {H H' : Hp} {xs : List V} (s : SameB m H H') (h : MillAt H m) (hx : H x = some (.tup xs)) : H' x = some (.tup xs) := s _ _ (h.neT hx) hx
theorem SameB.tups {m : Addr} {H H' : Hp} {vs : List V} {rows : List (List V)} (s : SameB m H H') (h : MillAt H m) (t : Tups H vs rows) : Tups H' vs rows := t.keep' fun _ _ e => s.tup h e
theorem SameB.tabs {T : List (Addr × Str)} {m : Addr} {H H' : Hp} (s : SameB m H H') (h : MillAt H m) (t : Tabs T H) : Tabs T H' := fun p hp => by
  obtain ⟨a, b, c, hm, _⟩ := h
  obtain ⟨ps, h1, h2, h3⟩ := t p hp
  have k : ∀ b u, H b = some u → (∀ l, u ≠ .lst l) → H' b = some u := fun b u e n => s b u (ne_of e hm fun z => n _ z) e
  refine ⟨ps, k _ _ h1 (fun _ z => (nomatch z)), h2, fun pos cv hc => ?_⟩
  obtain ⟨c', e1, e2⟩ := h3 pos cv hc
  refine ⟨c', e1, k _ _ e2 fun _ z => ?_⟩
  unfold CodeO at z
  cases z
def sp_law_mill (K : PySem.W.Frag) (_ : AD) : Sp := fun vs H Q _ => ∃ (a : Addr) (k : Int) (ns : List Int), vs = [.ref a, .int k] ∧ SqL K H a (ns.map V.int) ∧ 0 ≤ k ∧ ∀ H' m, Same H H' → MillAt H' m → H m = none → Q (.ref m) H'
def sp_law_grain (_ : PySem.W.Frag) (_ : AD) : Sp := fun vs H Q _ => ∃ (m : Addr) (n : Int), vs = [.ref m, .int n] ∧ MillAt H m ∧ 1 ≤ n ∧ n < 1073741824 ∧ ∀ H' g, SameB m H H' → MillAt H' m → 0 ≤ g → g < n → Q (.int g) H'
def sp_law_pick (_ : PySem.W.Frag) (_ : AD) : Sp := fun vs H Q _ => ∃ (m l : Addr) (xs : List V), vs = [.ref m, .ref l] ∧ MillAt H m ∧ H l = some (.lst xs) ∧ l ≠ m ∧ 0 < xs.length ∧ xs.length < 1000 ∧ ∀ H' v, SameB m H H' → MillAt H' m → v ∈ xs → Q v H'
theorem pos9 : (0 : Int) < 1999999817 := by decide
theorem cutV_int {ns : List Int} {lo hi : Option Int} {x : V} (h : x ∈ cutV (ns.map V.int) lo hi) : ∃ i, x = .int i := by
  unfold cutV at h
  obtain ⟨i, _, e⟩ := List.mem_map.mp (List.mem_of_mem_drop (List.mem_of_mem_take h))
  exact ⟨i, e.symm⟩
section
variable {P : Program} {w : World} {K : PySem.W.Frag} {mg : Str → Option Value} {base : Heap} {C : AD}
abbrev s_law_mill : Stmt := topS 48
theorem sc_law_mill : FnScope ["_law_script", "_law_k", "_law_own", "_law_mixed", "_law_entry"] ["_law_script", "_law_k"] (defScope s_law_mill) := ⟨rfl, rfl, rfl, by decide +kernel, rfl, by decide +kernel, by decide +kernel⟩
theorem ok_law_mill {f : Addr} {fd : FuncData} (F : Fun K "_law_mill" "_law_mill" s_law_mill f fd) (T : Txt K mg C) :
    FnOk P w K mg base CX0 1 f fd ["_law_script", "_law_k"] (sp_law_mill K C) := by
  refine F.ok sc_law_mill (fun vs H Q E h => ?_) (fun cdv A outer s H vs Q E hr h => ?_)
  · obtain ⟨a, k0, ns, rfl, _⟩ := h
    rfl
  · obtain ⟨a, k0, ns, rfl, ha, hk0, k⟩ := h
    refine ⟨_, (Evl.pss_cut (ps_set (i := 2) sc_law_mill.nd rfl (Or.inl rfl) (pe_ifExp (pt_cmpR op_lt (pv 1) (pe_callB call_len_seq (by rfl) T.z_len (by decide +kernel) (pa_cons (pv 0) pa_nil)) (nomark _)) (pe_callTy call_int1 (by rfl) T.z_int (by decide +kernel) (pa_cons (pe_ix ix_list (pv 0) (pv 1) (fun _ _ => rfl)) pa_nil)) (pe_op op_add (pe_op op_mul pe_int (pv 1)) pe_int)))
      (pss_cons (ps_set (i := 3) sc_law_mill.nd rfl (Or.inl rfl) (pe_op op_add pe_int (pe_op op_mul pe_int (pv 1))))
      (pss_cons (ps_for PassesOwn.never rfl (pi_list (pe_slice sl_list (pv 0) po_none (po_some pe_int))) (pg_name (i := 4) sc_law_mill.nd rfl (Or.inl rfl)) (pss_one (ps_set (i := 3) sc_law_mill.nd rfl (Or.inl rfl) (pe_op op_mod (pe_callTy call_int1 (by rfl) T.z_int (by decide +kernel) (pa_cons (pe_op op_add (pe_op op_mul (pv 3) pe_int) (pe_op op_mod (pe_callTy call_int1 (by rfl) T.z_int (by decide +kernel) (pa_cons (pv 4) pa_nil)) pe_int)) pa_nil)) pe_int))))
      (pss_one (ps_ret (pe_lst (pa_cons (pe_op op_mod (pe_callTy call_int1 (by rfl) T.z_int (by decide +kernel) (pa_cons (pe_op op_add (pe_op op_mul (pv 3) pe_int) (pe_op op_mod (pv 2) pe_int)) pa_nil)) pe_int) (pa_cons pe_int (pa_cons (pe_ifExp (PW.pt (pw_or (pt_cmpR op_lt (pv 2) pe_int (nomark _)) (pw_or1 (pt_cmpR op_ge (pv 2) (pe_op op_pow pe_int pe_int) (nomark _))))) (pe_callB call_abs (by rfl) T.z_abs (by decide +kernel) (pa_cons (pv 2) pa_nil)) pe_int) pa_nil))))))))), ?_⟩
    refine ⟨fun σ' H' => ∃ own : Int, σ' = [some (.ref a), some (.int k0), some (.int own), none, none] ∧ H' = H, ?_, ?_⟩
    · refine ⟨_, rfl, _, rfl, a, _, rfl, .inl ha, _, _, rfl, rfl, _, rfl, ?_⟩
      refine ite2 (fun c => ?_) (fun c => ?_)
      · have c' : k0 < (ns.length : Int) := by
          have := of_decide_eq_true c
          rw [List.length_map] at this
          exact this
        obtain ⟨j, rfl⟩ : ∃ j : Nat, k0 = (j : Nat) := ⟨k0.toNat, by omega⟩
        have hj : j < ns.length := by omega
        refine ⟨_, rfl, _, rfl, a, _, _, .int ns[j], rfl, rfl, ha, by rw [atI_nat]; rw [List.getElem?_map, List.getElem?_eq_getElem hj]; rfl, .inl ⟨_, rfl, ns[j], rfl, rfl⟩⟩
      · exact ⟨_, rfl, _, _, rfl, rfl, .inl ⟨by decide, by decide⟩, _, _, rfl, rfl, _, rfl, rfl⟩
    rintro σ' H' ⟨own, rfl, rfl⟩
    -- mixed
    refine ⟨_, rfl, _, _, rfl, rfl, .inl ⟨by decide, by decide⟩, _, _, rfl, rfl, ?_⟩
    -- for entry in script[:12]
    refine ⟨_, rfl, _, rfl, a, _, rfl, ha, fun p hp => ⟨p, rfl, ⟨_, SqL.of upd_same⟩, ?_⟩⟩
    have sp0 : Same H' (L2.upd H' p (.lst (cutV (ns.map V.int) none (some 12)))) := same_upd hp
    refine for_list (K := K) (a := p) (xs := cutV (ns.map V.int) none (some 12)) (fun i σ H1 => ∃ (mx : Int) (v4 : Option V), σ = [some (.ref a), some (.int k0), some (.int own), some (.int mx), v4] ∧ Same (L2.upd H' p (.lst (cutV (ns.map V.int) none (some 12)))) H1)
      ⟨_, _, rfl, Same.refl _⟩ (fun i σ H1 _ h => ?_) ?_ ?_
    · obtain ⟨_, _, _, h⟩ := h
      exact SqL.of (h _ _ upd_same)
    · rintro i x σ H1 hx ⟨mx, v4, rfl, h⟩
      obtain ⟨e, rfl⟩ := cutV_int (List.mem_of_getElem? hx)
      exact ⟨_, rfl, _, _, rfl, rfl, .inr ⟨by decide, by decide⟩, _, rfl, .inl ⟨_, rfl, _, _, rfl, rfl, pos9, _, _, rfl, rfl, .inl ⟨_, rfl, _, _, rfl, rfl, pos9, _, _, rfl, h⟩⟩⟩
    · rintro σ H1 ⟨mx, v4, rfl, h⟩
      have sH := sp0.trans h
      have fin : ∀ (g c : Int), 0 ≤ c → ([V.int (g % 1999999817), .int 1, .int c] : List V).length ≤ sizeLine ∧ ∀ m, H1 m = none → Q (.ref m) (L2.upd H1 m (.lst [.int (g % 1999999817), .int 1, .int c])) := fun g c hc => by
        refine ⟨by show 3 ≤ sizeLine; decide, fun m hm => k _ m (sH.trans (same_upd hm)) ⟨_, _, _, upd_same, Int.emod_nonneg _ (by decide), hc⟩ (sH.free hm)⟩
      refine ⟨_, rfl, _, _, rfl, rfl, .inr ⟨by decide, by decide⟩, _, rfl, _, _, rfl, rfl, pos9, _, _, rfl, rfl, .inl ⟨_, rfl, _, _, rfl, rfl, pos9, ?_⟩⟩
      refine ⟨_, rfl, _, _, rfl, rfl, _, rfl, ?_⟩
      refine ite2 (fun c => ?_) (fun c => ?_)
      · have c' : own < 0 := of_decide_eq_true c
        exact iteY rfl ⟨_, rfl, _, rfl, fin _ _ (by split <;> omega)⟩
      · refine ⟨_, rfl, _, _, rfl, rfl, ⟨by decide, by decide, by decide⟩, _, _, rfl, rfl, _, rfl, ?_⟩
        refine ite2 (fun c2 => ?_) (fun c2 => ?_)
        · exact ⟨_, rfl, _, rfl, fin _ _ (by split <;> omega)⟩
        · exact fin _ _ (by decide)
abbrev s_law_grain : Stmt := topS 49
theorem sc_law_grain : FnScope ["_law_mill_here", "_law_many", "_law_digit"] ["_law_mill_here", "_law_many"] (defScope s_law_grain) := ⟨rfl, rfl, rfl, by decide +kernel, rfl, by decide +kernel, by decide +kernel⟩
theorem ok_law_grain {f : Addr} {fd : FuncData} (F : Fun K "_law_grain" "_law_grain" s_law_grain f fd) (T : Txt K mg C) :
    FnOk P w K mg base CX0 1 f fd ["_law_mill_here", "_law_many"] (sp_law_grain K C) := by
  refine F.ok sc_law_grain (fun vs H Q E h => ?_) (fun cdv A outer s H vs Q E hr h => ?_)
  · obtain ⟨m, n, rfl, _⟩ := h
    rfl
  · obtain ⟨m, n, rfl, ⟨a, b, c, hm, ha, hc⟩, h1, h2, k⟩ := h
    refine ⟨_, (pss_cons (ps_asg (pe_op op_add (pe_ix ix_list (pv 0) pe_int (fun _ _ => rfl)) pe_int) (pg_sub (pv 0) pe_int set_list))
      (pss_cons (ps_if (pt_cmpR op_gt (pe_ix ix_list (pv 0) pe_int (fun _ _ => rfl)) pe_int (nomark _)) (pss_cons (ps_asg (pe_callB call_divmod (by rfl) T.z_divmod (by decide +kernel) (pa_cons (pe_callTy call_int1 (by rfl) T.z_int (by decide +kernel) (pa_cons (pe_ix ix_list (pv 0) pe_int (fun _ _ => rfl)) pa_nil)) (pa_cons (pv 1) pa_nil))) (pg_tup rfl (pgs_cons (pg_sub (pv 0) pe_int set_list) (pgs_cons (pg_name (i := 2) sc_law_grain.nd rfl (Or.inl rfl)) pgs_nil))))
      (pss_one (ps_ret (pv 2)))) pss_nil)
      (pss_cons (ps_asg (pe_op op_mod (pe_callTy call_int1 (by rfl) T.z_int (by decide +kernel) (pa_cons (pe_op op_add (pe_op op_add (pe_op op_mul (pe_ix ix_list (pv 0) pe_int (fun _ _ => rfl)) pe_int) (pe_op op_mul (pe_ix ix_list (pv 0) pe_int (fun _ _ => rfl)) pe_int)) (pe_op op_mul (pe_op op_fdiv (pe_ix ix_list (pv 0) pe_int (fun _ _ => rfl)) pe_int) pe_int)) pa_nil)) pe_int) (pg_sub (pv 0) pe_int set_list))
      (pss_one (ps_ret (pe_op op_mod (pe_callTy call_int1 (by rfl) T.z_int (by decide +kernel) (pa_cons (pe_op op_fdiv (pe_ix ix_list (pv 0) pe_int (fun _ _ => rfl)) pe_int) pa_nil)) (pv 1))))))), ?_⟩
    refine ⟨_, rfl, m, _, _, _, rfl, rfl, SqL.of hm, rfl, _, _, rfl, rfl, _, rfl, m, _, _, _, rfl, rfl, hm, rfl, ?_⟩
    have hm1 : (L2.upd H m (.lst [.int a, .int (b + 4), .int c])) m = some (.lst [.int a, .int (b + 4), .int c]) := upd_same
    have s1 : SameB m H (L2.upd H m (.lst [.int a, .int (b + 4), .int c])) := .put
    show tSeq _ _ _ _ (L2.upd H m (.lst [.int a, .int (b + 4), .int c]))
    generalize L2.upd H m (.lst [.int a, .int (b + 4), .int c]) = H1 at hm1 s1
    refine ⟨_, rfl, m, _, _, _, rfl, rfl, SqL.of hm1, rfl, _, _, rfl, rfl, _, rfl, ?_⟩
    refine ite2 (fun q => ?_) (fun q => ?_)
    · refine ⟨_, rfl, m, _, _, _, rfl, rfl, SqL.of hm1, rfl, .inl ⟨_, rfl, _, rfl, _, _, rfl, ⟨by omega, h2⟩, fun p hp => ?_⟩⟩
      have s2 : SameB m H1 (L2.upd H1 p (.tup [.int (c / n), .int (c % n)])) := .of (same_upd hp)
      have hm2 : (L2.upd H1 p (.tup [.int (c / n), .int (c % n)])) m = some (.lst [.int a, .int (b + 4), .int c]) := by
        rw [upd_ne (ne_of_none hm1 hp)]; exact hm1
      refine ⟨p, _, rfl, SqT.of upd_same, rfl, _, _, rfl, ?_⟩
      refine ⟨_, rfl, m, _, _, _, rfl, rfl, hm2, rfl, _, _, rfl, rfl, ?_⟩
      exact ⟨_, rfl, k _ _ ((s1.trans s2).trans .put) ⟨a, b + 4, c / n, upd_same, ha, Int.ediv_nonneg hc (by omega)⟩ (Int.emod_nonneg _ (by omega)) (Int.emod_lt_of_pos _ (by omega))⟩
    · refine ⟨_, rfl, m, _, _, _, rfl, rfl, SqL.of hm1, rfl, _, _, rfl, rfl, .inr ⟨by decide, by decide⟩, ?_⟩
      refine ⟨_, rfl, m, _, _, _, rfl, rfl, SqL.of hm1, rfl, _, _, rfl, rfl, .inr ⟨by decide, by decide⟩, _, _, rfl, rfl, ?_⟩
      refine ⟨_, rfl, m, _, _, _, rfl, rfl, SqL.of hm1, rfl, _, _, rfl, rfl, ⟨by decide, by decide⟩, _, _, rfl, rfl, .inr ⟨by decide, by decide⟩, _, _, rfl, rfl, .inl ⟨_, rfl, _, _, rfl, rfl, pos9, ?_⟩⟩
      refine ⟨_, rfl, m, _, _, _, rfl, rfl, hm1, rfl, ?_⟩
      have hx0 : 0 ≤ (a * 47017 + (b + 4) * 70009 + a / 6007 * 37) % 1999999817 := Int.emod_nonneg _ (by decide)
      have hm3 : (L2.upd H1 m (.lst [.int ((a * 47017 + (b + 4) * 70009 + a / 6007 * 37) % 1999999817), .int (b + 4), .int c])) m = some (.lst [.int ((a * 47017 + (b + 4) * 70009 + a / 6007 * 37) % 1999999817), .int (b + 4), .int c]) := upd_same
      refine ⟨_, rfl, m, _, _, _, rfl, rfl, SqL.of hm3, rfl, _, _, rfl, rfl, ⟨by decide, by decide⟩, .inl ⟨_, rfl, _, rfl, _, _, rfl, rfl, (show (0 : Int) < n by omega), ?_⟩⟩
      exact k _ _ (s1.trans .put) ⟨_, b + 4, c, upd_same, hx0, hc⟩ (Int.emod_nonneg _ (by omega)) (Int.emod_lt_of_pos _ (by omega))
abbrev s_law_pick : Stmt := topS 50
theorem sc_law_pick : FnScope ["_law_mill_here", "_law_things"] ["_law_mill_here", "_law_things"] (defScope s_law_pick) := ⟨rfl, rfl, rfl, by decide +kernel, rfl, by decide +kernel, by decide +kernel⟩
theorem ok_law_pick {f : Addr} {fd : FuncData} (F : Fun K "_law_pick" "_law_pick" s_law_pick f fd) (T : Txt K mg C)
    (M_law_grain : GOk P w K mg base "_law_grain" 1 ["_law_mill_here", "_law_many"] (sp_law_grain K C)) :
    FnOk P w K mg base CX0 2 f fd ["_law_mill_here", "_law_things"] (sp_law_pick K C) := by
  obtain ⟨_, _, G_law_grain, b_law_grain, g_law_grain, k_law_grain⟩ := M_law_grain.ex
  refine F.ok sc_law_pick (fun vs H Q E h => ?_) (fun cdv A outer s H vs Q E hr h => ?_)
  · obtain ⟨m, l, xs, rfl, _⟩ := h
    rfl
  · obtain ⟨m, l, xs, rfl, hm, hl, hne, h1, h2, k⟩ := h
    refine ⟨_, (pss_one (ps_ret (pe_ix ix_list (pv 1) (pe_call G_law_grain (hr.mono (by decide)) (by rfl) g_law_grain k_law_grain b_law_grain .nil pass0 (pa_cons (pv 0) (pa_cons (pe_callB call_len_seq (by rfl) T.z_len (by decide +kernel) (pa_cons (pv 1) pa_nil)) pa_nil))) (fun _ _ => rfl)))), ?_⟩
    refine ⟨_, rfl, _, rfl, _, rfl, l, _, rfl, .inl (SqL.of hl), m, _, rfl, hm, by omega, by omega, fun H' g s hm' g0 g1 => ?_⟩
    obtain ⟨j, rfl⟩ : ∃ j : Nat, g = (j : Nat) := ⟨g.toNat, by omega⟩
    have hj : j < xs.length := by omega
    exact ⟨l, xs, _, xs[j], rfl, rfl, SqL.of (s _ _ hne hl), by rw [atI_nat]; exact List.getElem?_eq_getElem hj, k _ _ s hm' (List.getElem_mem hj)⟩
end
end Sh

namespace Sh
open PySem L2 PySem.Spec PyProof.Rows LamX
def rowW (s : Setg) : List V := [.str (ruleS s.rule), .int s.every, .int s.delay]
/-- a line as the law tells it -/
structure ToldAt (H : Hp) (t c d : Addr) (L : Ln) : Prop where
  t : H t = some (.tup [.int L.size, .int L.way, .ref c, .ref d])
  c : H c = some (.tup (rowW (L.st false)))
  d : H d = some (.tup (rowW (L.st true)))
def sp_law_ways (_ : PySem.W.Frag) (_ : AD) : Sp := fun vs H Q _ => ∃ m, vs = [.ref m] ∧ MillAt H m ∧ ∀ H' t s, SetOk s → SameB m H H' → MillAt H' m → H' t = some (.tup (rowW s)) → Q (.ref t) H'
def sp_law_told (_ : PySem.W.Frag) (_ : AD) : Sp := fun vs H Q _ => ∃ m, vs = [.ref m] ∧ MillAt H m ∧ ∀ H' t c d L, LinOk L → SameB m H H' → MillAt H' m → ToldAt H' t c d L → Q (.ref t) H'
def sp_law_made (_ : PySem.W.Frag) (C : AD) : Sp := fun vs H Q _ => ∃ t c d L, vs = [.ref t] ∧ ToldAt H t c d L ∧ LinOk L ∧ ∀ H' ln near far, Same H H' → LineAt C H' ln near far L → Q (.ref ln) H'
def sp_law_amount (_ : PySem.W.Frag) (_ : AD) : Sp := fun vs H Q _ => ∃ m, vs = [.ref m, .bl true] ∧ MillAt H m ∧ ∀ H' a, AmOk a → SameB m H H' → MillAt H' m → Q (vA a) H'
theorem rule_of {v : V} (h : v ∈ [V.str "plain", V.str "hold", V.str "few", V.str "hold"]) : ∃ r : Rule, v = .str (ruleS r) := by
  rcases List.mem_cons.mp h with h | h
  · exact ⟨.plain, h⟩
  rcases List.mem_cons.mp h with h | h
  · exact ⟨.hold, h⟩
  rcases List.mem_cons.mp h with h | h
  · exact ⟨.few, h⟩
  exact ⟨.hold, List.mem_singleton.mp h⟩
theorem int_of {v : V} {ns : List Int} {lo hi : Int} (hv : v ∈ ns.map V.int) (hb : ∀ n ∈ ns, lo ≤ n ∧ n ≤ hi) : ∃ i, v = .int i ∧ lo ≤ i ∧ i ≤ hi := by
  obtain ⟨i, hi, e⟩ := List.mem_map.mp hv
  exact ⟨i, e.symm, (hb i hi).1, (hb i hi).2⟩
section
variable {P : Program} {w : World} {K : PySem.W.Frag} {mg : Str → Option Value} {base : Heap} {C : AD}
abbrev s_law_ways : Stmt := topS 51
theorem sc_law_ways : FnScope ["_law_mill_here", "_law_word"] ["_law_mill_here"] (defScope s_law_ways) := ⟨rfl, rfl, rfl, by decide +kernel, rfl, by decide +kernel, by decide +kernel⟩
theorem ok_law_ways {f : Addr} {fd : FuncData} (F : Fun K "_law_ways" "_law_ways" s_law_ways f fd) (T : Txt K mg C)
    (M_law_pick : GOk P w K mg base "_law_pick" 2 ["_law_mill_here", "_law_things"] (sp_law_pick K C))
    (M_law_grain : GOk P w K mg base "_law_grain" 1 ["_law_mill_here", "_law_many"] (sp_law_grain K C)) :
    FnOk P w K mg base CX0 3 f fd ["_law_mill_here"] (sp_law_ways K C) := by
  obtain ⟨_, _, G_law_pick, b_law_pick, g_law_pick, k_law_pick⟩ := M_law_pick.ex
  obtain ⟨_, _, G_law_grain, b_law_grain, g_law_grain, k_law_grain⟩ := M_law_grain.ex
  refine F.ok sc_law_ways (fun vs H Q E h => ?_) (fun cdv A outer s H vs Q E hr h => ?_)
  · obtain ⟨m, rfl, _⟩ := h
    rfl
  · obtain ⟨m, rfl, hm, k⟩ := h
    refine ⟨_, (pss_cons (ps_set (i := 1) sc_law_ways.nd rfl (Or.inl rfl) (pe_call G_law_pick (hr.mono (by decide)) (by rfl) g_law_pick k_law_pick b_law_pick .nil pass0 (pa_cons (pv 0) (pa_cons (pe_lst (pa_cons pe_str (pa_cons pe_str (pa_cons pe_str (pa_cons pe_str pa_nil))))) pa_nil))))
      (pss_one (ps_ret (pe_tup (pa_cons (pv 1) (pa_cons (pe_op op_add pe_int (pe_call G_law_grain (hr.mono (by decide)) (by rfl) g_law_grain k_law_grain b_law_grain .nil pass0 (pa_cons (pv 0) (pa_cons pe_int pa_nil)))) (pa_cons (pe_call G_law_pick (hr.mono (by decide)) (by rfl) g_law_pick k_law_pick b_law_pick .nil pass0 (pa_cons (pv 0) (pa_cons (pe_lst (pa_cons pe_int (pa_cons pe_int (pa_cons pe_int (pa_cons pe_int (pa_cons pe_int (pa_cons (pe_call G_law_grain (hr.mono (by decide)) (by rfl) g_law_grain k_law_grain b_law_grain .nil pass0 (pa_cons (pv 0) (pa_cons pe_int pa_nil))) pa_nil))))))) pa_nil))) pa_nil))))))), ?_⟩
    refine ⟨_, rfl, by show 4 ≤ sizeLine; decide, fun l hl => ?_⟩
    have s0 : SameB m H (L2.upd H l (.lst [.str "plain", .str "hold", .str "few", .str "hold"])) := .of (same_upd hl)
    refine ⟨m, l, _, rfl, hm.same (same_upd hl), upd_same, hm.ne hl, by decide, by decide, fun H1 v s1 hm1 hv => ?_⟩
    obtain ⟨r, rfl⟩ := rule_of hv
    refine ⟨_, rfl, _, rfl, m, 4, rfl, hm1, by decide, by decide, fun H2 g s2 hm2 g0 g1 => ?_⟩
    refine ⟨_, _, rfl, rfl, ?_⟩
    refine ⟨_, rfl, _, rfl, m, 60, rfl, hm2, by decide, by decide, fun H3 g3 s3 hm3 g30 g31 => ?_⟩
    refine ⟨by show 6 ≤ sizeLine; decide, fun l2 hl2 => ?_⟩
    refine ⟨m, l2, _, rfl, hm3.same (same_upd hl2), upd_same, hm3.ne hl2, by show 0 < 6; decide, by show 6 < 1000; decide, fun H4 v4 s4 hm4 hv4 => ?_⟩
    obtain ⟨dl, rfl, d0, d1⟩ := int_of (ns := [0, 1, 3, 7, 20, g3]) (lo := 0) (hi := 60) hv4 (by simp; omega)
    refine ⟨by show 3 ≤ sizeLine; decide, fun t ht => ?_⟩
    refine k _ t ⟨r, 1 + g, dl⟩ ⟨by show 1 ≤ 1 + g; omega, by show 1 + g ≤ 4; omega, d0, by show dl ≤ 200; omega⟩ ?_ (hm4.same (same_upd ht)) upd_same
    exact ((((s0.trans s1).trans s2).trans s3).trans (.of (same_upd hl2))).trans (s4.trans (.of (same_upd ht)))
abbrev s_law_told : Stmt := topS 52
theorem sc_law_told : FnScope ["_law_mill_here", "_law_big"] ["_law_mill_here"] (defScope s_law_told) := ⟨rfl, rfl, rfl, by decide +kernel, rfl, by decide +kernel, by decide +kernel⟩
theorem ok_law_told {f : Addr} {fd : FuncData} (F : Fun K "_law_told" "_law_told" s_law_told f fd) (T : Txt K mg C)
    (M_law_ways : GOk P w K mg base "_law_ways" 3 ["_law_mill_here"] (sp_law_ways K C))
    (M_law_pick : GOk P w K mg base "_law_pick" 2 ["_law_mill_here", "_law_things"] (sp_law_pick K C))
    (M_law_grain : GOk P w K mg base "_law_grain" 1 ["_law_mill_here", "_law_many"] (sp_law_grain K C)) :
    FnOk P w K mg base CX0 4 f fd ["_law_mill_here"] (sp_law_told K C) := by
  obtain ⟨_, _, G_law_ways, b_law_ways, g_law_ways, k_law_ways⟩ := M_law_ways.ex
  obtain ⟨_, _, G_law_pick, b_law_pick, g_law_pick, k_law_pick⟩ := M_law_pick.ex
  obtain ⟨_, _, G_law_grain, b_law_grain, g_law_grain, k_law_grain⟩ := M_law_grain.ex
  refine F.ok sc_law_told (fun vs H Q E h => ?_) (fun cdv A outer s H vs Q E hr h => ?_)
  · obtain ⟨m, rfl, _⟩ := h
    rfl
  · obtain ⟨m, rfl, hm, k⟩ := h
    refine ⟨_, (pss_cons (ps_set (i := 1) sc_law_told.nd rfl (Or.inl rfl) (pe_call G_law_pick (hr.mono (by decide)) (by rfl) g_law_pick k_law_pick b_law_pick .nil pass0 (pa_cons (pv 0) (pa_cons (pe_lst (pa_cons pe_int (pa_cons pe_int (pa_cons pe_int (pa_cons pe_int (pa_cons pe_int (pa_cons pe_int pa_nil))))))) pa_nil))))
      (pss_one (ps_ret (pe_tup (pa_cons (pv 1) (pa_cons (pe_call G_law_pick (hr.mono (by decide)) (by rfl) g_law_pick k_law_pick b_law_pick .nil pass0 (pa_cons (pv 0) (pa_cons (pe_lst (pa_cons pe_int (pa_cons pe_int (pa_cons pe_int (pa_cons (pe_op op_add pe_int (pe_call G_law_grain (hr.mono (by decide)) (by rfl) g_law_grain k_law_grain b_law_grain .nil pass0 (pa_cons (pv 0) (pa_cons pe_int pa_nil)))) pa_nil))))) pa_nil))) (pa_cons (pe_call G_law_ways (hr.mono (by decide)) (by rfl) g_law_ways k_law_ways b_law_ways .nil pass0 (pa_cons (pv 0) pa_nil)) (pa_cons (pe_call G_law_ways (hr.mono (by decide)) (by rfl) g_law_ways k_law_ways b_law_ways .nil pass0 (pa_cons (pv 0) pa_nil)) pa_nil)))))))), ?_⟩
    refine ⟨_, rfl, by show 6 ≤ sizeLine; decide, fun l hl => ?_⟩
    have s0 : SameB m H (L2.upd H l (.lst [.int 1, .int 2, .int 3, .int 4, .int 5, .int 10])) := .of (same_upd hl)
    refine ⟨m, l, _, rfl, hm.same (same_upd hl), upd_same, hm.ne hl, by decide, by decide, fun H1 v s1 hm1 hv => ?_⟩
    obtain ⟨big, rfl, b0, b1⟩ := int_of (ns := [1, 2, 3, 4, 5, 10]) (lo := 1) (hi := 10) hv (by simp)
    refine ⟨_, rfl, _, rfl, _, rfl, m, 30, rfl, hm1, by decide, by decide, fun H2 g s2 hm2 g0 g1 => ?_⟩
    refine ⟨_, _, rfl, rfl, by show 4 ≤ sizeLine; decide, fun l2 hl2 => ?_⟩
    refine ⟨m, l2, _, rfl, hm2.same (same_upd hl2), upd_same, hm2.ne hl2, by show 0 < 4; decide, by show 4 < 1000; decide, fun H3 v3 s3 hm3 hv3 => ?_⟩
    obtain ⟨way, rfl, w0, w1⟩ := int_of (ns := [1, 2, 5, 1 + g]) (lo := 1) (hi := 30) hv3 (by simp; omega)
    refine ⟨_, rfl, m, rfl, hm3, fun H4 c sc okc s4 hm4 hc => ?_⟩
    refine ⟨_, rfl, m, rfl, hm4, fun H5 d sd okd s5 hm5 hd => ?_⟩
    refine ⟨by show 4 ≤ sizeLine; decide, fun t ht => ?_⟩
    have hc5 := s5.tup hm4 hc
    have st := same_upd ht (o := .tup [.int big, .int way, .ref c, .ref d])
    refine k _ t c d ⟨big, way, fun b => if b then sd else sc⟩ ⟨b0, by show big ≤ 40; omega, w0, by show way ≤ 200; omega, fun b => by cases b; exact okc; exact okd⟩ ?_ (hm5.same st) ⟨upd_same, st _ _ hc5, st _ _ hd⟩
    exact ((((s0.trans s1).trans s2).trans (.of (same_upd hl2))).trans s3).trans ((s4.trans s5).trans (.of st))
abbrev s_law_made : Stmt := topS 53
theorem sc_law_made : FnScope ["_law_told_here", "_law_a", "_law_b", "_law_c", "_law_d"] ["_law_told_here"] (defScope s_law_made) := ⟨rfl, rfl, rfl, by decide +kernel, rfl, by decide +kernel, by decide +kernel⟩
theorem ok_law_made {f : Addr} {fd : FuncData} (F : Fun K "_law_made" "_law_made" s_law_made f fd) (T : Txt K mg C)
    (MLine___init__ : IOk P w K mg base C.Line 4 ["self", "size", "way", "near", "far"] (spLine___init__ K C))
    (MSetting___init__ : IOk P w K mg base C.Setting 4 ["self", "rule", "every", "delay"] (spSetting___init__ K C)) :
    FnOk P w K mg base CX0 6 f fd ["_law_told_here"] (sp_law_made K C) := by
  obtain ⟨_, _, GLine___init__, bLine___init__, MLine⟩ := MLine___init__.ex
  obtain ⟨_, _, GSetting___init__, bSetting___init__, MSetting⟩ := MSetting___init__.ex
  refine F.ok sc_law_made (fun vs H Q E h => ?_) (fun cdv A outer s H vs Q E hr h => ?_)
  · obtain ⟨t, c, d, L, rfl, _⟩ := h
    rfl
  · obtain ⟨t, c, d, L, rfl, h1, ok, k⟩ := h
    refine ⟨_, (pss_cons (ps_asg (pv 0) (pg_tup rfl (pgs_cons (pg_name (i := 1) sc_law_made.nd rfl (Or.inl rfl)) (pgs_cons (pg_name (i := 2) sc_law_made.nd rfl (Or.inl rfl)) (pgs_cons (pg_name (i := 3) sc_law_made.nd rfl (Or.inl rfl)) (pgs_cons (pg_name (i := 4) sc_law_made.nd rfl (Or.inl rfl)) pgs_nil))))))
      (pss_one (ps_ret (pe_make MLine GLine___init__ (hr.mono (by decide)) (by rfl) T.m_Line bLine___init__ .nil pass0 (pa_cons (pv 1) (pa_cons (pv 2) (pa_cons (pe_make MSetting GSetting___init__ (hr.mono (by decide)) (by rfl) T.m_Setting bSetting___init__ .nil pass0 (pa_cons (pe_ix ix_tup (pv 3) pe_int (fun _ _ => rfl)) (pa_cons (pe_ix ix_tup (pv 3) pe_int (fun _ _ => rfl)) (pa_cons (pe_ix ix_tup (pv 3) pe_int (fun _ _ => rfl)) pa_nil)))) (pa_cons (pe_make MSetting GSetting___init__ (hr.mono (by decide)) (by rfl) T.m_Setting bSetting___init__ .nil pass0 (pa_cons (pe_ix ix_tup (pv 4) pe_int (fun _ _ => rfl)) (pa_cons (pe_ix ix_tup (pv 4) pe_int (fun _ _ => rfl)) (pa_cons (pe_ix ix_tup (pv 4) pe_int (fun _ _ => rfl)) pa_nil)))) pa_nil)))))))), ?_⟩
    refine ⟨_, rfl, t, _, rfl, SqT.of h1.t, rfl, _, _, rfl, _, _, rfl, _, _, rfl, _, _, rfl, rfl, ?_⟩
    refine ⟨_, rfl, _, rfl, ?_⟩
    refine ⟨_, rfl, c, _, _, _, rfl, rfl, SqT.of h1.c, rfl, _, rfl, c, _, _, _, rfl, rfl, SqT.of h1.c, rfl, _, rfl, c, _, _, _, rfl, rfl, SqT.of h1.c, rfl, fun s1 d1 hs1 hd1 hn1 => ?_⟩
    refine ⟨H, s1, d1, L.st false, rfl, ok.st false, upd_same, Same.upd0 (same_upd hd1) hs1, hs1, fun H1 e1 a1 => ⟨rfl, ?_⟩⟩
    have hd' := e1 _ _ h1.d
    refine ⟨_, rfl, d, _, _, _, rfl, rfl, SqT.of hd', rfl, _, rfl, d, _, _, _, rfl, rfl, SqT.of hd', rfl, _, rfl, d, _, _, _, rfl, rfl, SqT.of hd', rfl, fun s2 d2 hs2 hd2 hn2 => ?_⟩
    refine ⟨H1, s2, d2, L.st true, rfl, ok.st true, upd_same, Same.upd0 (same_upd hd2) hs2, hs2, fun H2 e2 a2 => ⟨rfl, ?_⟩⟩
    refine fun ln d3 hl3 hd3 hn3 => ?_
    exact ⟨H2, ln, d3, s1, s2, L, rfl, ok, upd_same, Same.upd0 (same_upd hd3) hl3, hl3, a1.same e2, a2, fun H3 e3 a3 => ⟨rfl, k _ ln s1 s2 ((e1.trans e2).trans e3) a3⟩⟩
abbrev s_law_amount : Stmt := topS 54
theorem sc_law_amount : FnScope ["_law_mill_here", "_law_letter"] ["_law_mill_here", "_law_letter"] (defScope s_law_amount) := ⟨rfl, rfl, rfl, by decide +kernel, rfl, by decide +kernel, by decide +kernel⟩
theorem ok_law_amount {f : Addr} {fd : FuncData} (F : Fun K "_law_amount" "_law_amount" s_law_amount f fd) (T : Txt K mg C)
    (M_law_grain : GOk P w K mg base "_law_grain" 1 ["_law_mill_here", "_law_many"] (sp_law_grain K C))
    (M_law_pick : GOk P w K mg base "_law_pick" 2 ["_law_mill_here", "_law_things"] (sp_law_pick K C)) :
    FnOk P w K mg base CX0 3 f fd ["_law_mill_here", "_law_letter"] (sp_law_amount K C) := by
  obtain ⟨_, _, G_law_grain, b_law_grain, g_law_grain, k_law_grain⟩ := M_law_grain.ex
  obtain ⟨_, _, G_law_pick, b_law_pick, g_law_pick, k_law_pick⟩ := M_law_pick.ex
  refine F.ok sc_law_amount (fun vs H Q E h => ?_) (fun cdv A outer s H vs Q E hr h => ?_)
  · obtain ⟨m, rfl, _⟩ := h
    rfl
  · obtain ⟨m, rfl, hm, k⟩ := h
    refine ⟨_, (pss_cons (ps_if (PW.pt (pw_and (pt_val (pv 1)) (pw_and1 (pt_cmpR op_eq (pe_call G_law_grain (hr.mono (by decide)) (by rfl) g_law_grain k_law_grain b_law_grain .nil pass0 (pa_cons (pv 0) (pa_cons pe_int pa_nil))) pe_int (nomark _))))) (pss_one (ps_ret pe_str)) pss_nil)
      (pss_one (ps_ret (pe_op op_add pe_int (pe_call G_law_grain (hr.mono (by decide)) (by rfl) g_law_grain k_law_grain b_law_grain .nil pass0 (pa_cons (pv 0) (pa_cons (pe_call G_law_pick (hr.mono (by decide)) (by rfl) g_law_pick k_law_pick b_law_pick .nil pass0 (pa_cons (pv 0) (pa_cons (pe_lst (pa_cons pe_int (pa_cons pe_int (pa_cons pe_int pa_nil)))) pa_nil))) pa_nil))))))), ?_⟩
    refine ⟨_, rfl, _, rfl, ?_⟩
    refine iteY rfl ?_
    refine ⟨_, rfl, m, 3, rfl, hm, by decide, by decide, fun H1 g s1 hm1 g0 g1 => ⟨rfl, _, rfl, ?_⟩⟩
    refine ite2 (fun c => ?_) (fun c => ?_)
    · exact k _ none (fun n e => nomatch e) s1 hm1
    · refine ⟨_, rfl, _, rfl, by show 3 ≤ sizeLine; decide, fun l hl => ?_⟩
      have s2 : SameB m H1 (L2.upd H1 l (.lst [.int 3, .int 8, .int 14])) := .of (same_upd hl)
      refine ⟨m, l, _, rfl, hm1.same (same_upd hl), upd_same, hm1.ne hl, by decide, by decide, fun H2 v s3 hm2 hv => ?_⟩
      obtain ⟨n, rfl, n0, n1⟩ := int_of (ns := [3, 8, 14]) (lo := 3) (hi := 14) hv (by simp)
      refine ⟨m, n, rfl, hm2, by omega, by omega, fun H3 g3 s4 hm3 g30 g31 => ?_⟩
      exact ⟨_, _, rfl, rfl, k _ (some (1 + g3)) (fun i e => by cases e; omega) (((s1.trans s2).trans s3).trans s4) hm3⟩
end
end Sh

namespace Sh
open PySem L2 PySem.Spec PyProof.Rows LamX
/-- two programs as they grow -/
structure PL (H0 H : Hp) (m pl : Addr) (pp : Bool → Addr) (rr : Bool → List V) (ll : Bool → List Item) (N : Nat) : Prop where
  sb : SameB m H0 H
  mill : MillAt H m
  hp : H pl = some (.lst [.ref (pp false), .ref (pp true)])
  at_ : ∀ b, H (pp b) = some (.lst (rr b))
  rows : ∀ b, Tups H (rr b) ((ll b).map rowT)
  f0 : ∀ b, H0 (pp b) = none
  ne : pp false ≠ pp true
  npl : ∀ b, pl ≠ pp b
  nm : ∀ b, pp b ≠ m
  nlm : pl ≠ m
  ok : ∀ b, ∀ it ∈ ll b, ItemOk it
  len : ∀ b, (ll b).length ≤ N
section
variable {H0 H H' : Hp} {m pl x : Addr} {pp : Bool → Addr} {rr : Bool → List V} {ll : Bool → List Item} {N : Nat} {o : HO}
theorem PL.more (h : PL H0 H m pl pp rr ll N) {N' : Nat} (e : N ≤ N') : PL H0 H m pl pp rr ll N' := ⟨h.sb, h.mill, h.hp, h.at_, h.rows, h.f0, h.ne, h.npl, h.nm, h.nlm, h.ok, fun b => Nat.le_trans (h.len b) e⟩
theorem PL.step (h : PL H0 H m pl pp rr ll N) (s : SameB m H H') (hm : MillAt H' m) : PL H0 H' m pl pp rr ll N :=
  ⟨h.sb.trans s, hm, s _ _ h.nlm h.hp, fun b => s _ _ (h.nm b) (h.at_ b), fun b => s.tups h.mill (h.rows b), h.f0, h.ne, h.npl, h.nm, h.nlm, h.ok, h.len⟩
theorem PL.new (h : PL H0 H m pl pp rr ll N) (hx : H x = none) (o : HO) : PL H0 (L2.upd H x o) m pl pp rr ll N := h.step (.of (same_upd hx)) (h.mill.same (same_upd hx))
theorem PL.rlen (h : PL H0 H m pl pp rr ll N) (b : Bool) : (rr b).length = (ll b).length := by
  have := (h.rows b).length
  rw [List.length_map] at this
  exact this
theorem PL.app (h : PL H0 H m pl pp rr ll N) (b : Bool) {it : Item} (hx : H x = some (.tup (rowT it))) (hk : ItemOk it) :
    PL H0 (L2.upd H (pp b) (.lst (rr b ++ [.ref x]))) m pl pp (fun c => if c = b then rr b ++ [.ref x] else rr c) (fun c => if c = b then ll b ++ [it] else ll c) (N + 1) := by
  have k : KT H (L2.upd H (pp b) (.lst (rr b ++ [.ref x]))) := KT.lst (h.at_ b)
  have nn : ∀ c, c ≠ b → pp c ≠ pp b := fun c e => by
    cases b <;> cases c <;> first | exact absurd rfl e | exact h.ne | exact h.ne.symm
  obtain ⟨a1, a2, a3, hm, r⟩ := h.mill
  refine ⟨fun c u n e => ?_, ⟨a1, a2, a3, by rw [upd_ne (h.nm b).symm]; exact hm, r⟩, ?_, fun c => ?_, fun c => ?_, h.f0, h.ne, h.npl, h.nm, h.nlm, fun c => ?_, fun c => ?_⟩
  · rw [upd_ne (ne_of_none e (h.f0 b))]; exact h.sb _ _ n e
  · rw [upd_ne (h.npl b)]; exact h.hp
  · by_cases e : c = b
    · subst e; rw [upd_same, if_pos rfl]
    · rw [upd_ne (nn c e), if_neg e]; exact h.at_ c
  · by_cases e : c = b
    · subst e
      rw [if_pos rfl, if_pos rfl, List.map_append]
      exact ((h.rows c).app (.cons hx .nil)).keep k
    · rw [if_neg e, if_neg e]; exact (h.rows c).keep k
  · by_cases e : c = b
    · subst e; rw [if_pos rfl]
      intro i hi
      rcases List.mem_append.mp hi with q | q
      · exact h.ok c i q
      · rw [List.mem_singleton.mp q]; exact hk
    · rw [if_neg e]; exact h.ok c
  · by_cases e : c = b
    · subst e; rw [if_pos rfl, List.length_append]; have := h.len c; simp; omega
    · rw [if_neg e]; have := h.len c; omega
theorem PL.ix (h : PL H0 H m pl pp rr ll N) (b : Bool) : atI [V.ref (pp false), V.ref (pp true)] (sI b) = some (.ref (pp b)) := by cases b <;> rfl
end
theorem sI_of {g : Int} (h0 : 0 ≤ g) (h1 : g < 2) : ∃ b, g = sI b := by
  by_cases e : g = 0
  · exact ⟨false, e⟩
  · exact ⟨true, (show g = 1 by omega)⟩
theorem Tups.take {H : Hp} : ∀ {vs : List V} {rows : List (List V)} (n : Nat), Tups H vs rows → Tups H (vs.take n) (rows.take n)
  | _, _, 0, _ => by rw [List.take_zero, List.take_zero]; exact .nil
  | _, _, n + 1, .nil => by rw [List.take_nil, List.take_nil]; exact .nil
  | _, _, n + 1, .cons h t => .cons h (Tups.take n t)
theorem cut6 (l : List V) : cutV l none (some 6) = l.take 6 := by
  unfold cutV
  have e1 : HT.sIx l.length 0 none = 0 := rfl
  have e2 : HT.sIx l.length l.length (some 6) = min 6 l.length := by
    simp [HT.sIx]
    try omega
  rw [e1, e2, List.drop_zero, Nat.sub_zero]
  by_cases h : 6 ≤ l.length
  · rw [Nat.min_eq_left h]
  · rw [Nat.min_eq_right (by omega), List.take_of_length_le (Nat.le_refl _), List.take_of_length_le (by omega)]
def sp_law_plans (_ : PySem.W.Frag) (_ : AD) : Sp := fun vs H Q _ => ∃ m, vs = [.ref m, .bl true] ∧ MillAt H m ∧ ∀ H' t a b va vb la lb, SameB m H H' → MillAt H' m → H' t = some (.tup [.ref a, .ref b]) → ProgAt H' a va la → ProgAt H' b vb lb →
  (∀ it ∈ la, ItemOk it) → (∀ it ∈ lb, ItemOk it) → la.length ≤ 6 → lb.length ≤ 6 → Q (.ref t) H'
def sp_law_choice (_ : PySem.W.Frag) (_ : AD) : Sp := fun vs H Q _ => ∃ (m t a b : Addr) (va vb : List V) (la lb : List Item), vs = [.ref m, .ref t] ∧ MillAt H m ∧ H t = some (.tup [.ref a, .ref b]) ∧ ProgAt H a va la ∧ ProgAt H b vb lb ∧
  (∀ it ∈ la, ItemOk it) ∧ (∀ it ∈ lb, ItemOk it) ∧ la.length ≤ 6 ∧ lb.length ≤ 6 ∧ ∀ H' tk ts, SameB m H H' → MillAt H' m → H' tk = some (.tup (ts.map V.int)) → Fits ts ((la ++ lb).filter isPau) → Q (.ref tk) H'
section
variable {P : Program} {w : World} {K : PySem.W.Frag} {mg : Str → Option Value} {base : Heap} {C : AD}
abbrev s_law_plans : Stmt := topS 55
theorem sc_law_plans : FnScope ["_law_mill_here", "_law_letter", "_law_plans_here", "_law_k", "_law_near_here", "_law_amount_here", "_law_way", "_law_least"] ["_law_mill_here", "_law_letter"] (defScope s_law_plans) := ⟨rfl, rfl, rfl, by decide +kernel, rfl, by decide +kernel, by decide +kernel⟩
theorem ok_law_plans {f : Addr} {fd : FuncData} (F : Fun K "_law_plans" "_law_plans" s_law_plans f fd) (T : Txt K mg C)
    (M_law_grain : GOk P w K mg base "_law_grain" 1 ["_law_mill_here", "_law_many"] (sp_law_grain K C))
    (M_law_amount : GOk P w K mg base "_law_amount" 3 ["_law_mill_here", "_law_letter"] (sp_law_amount K C)) :
    FnOk P w K mg base CX0 4 f fd ["_law_mill_here", "_law_letter"] (sp_law_plans K C) := by
  obtain ⟨_, _, G_law_grain, b_law_grain, g_law_grain, k_law_grain⟩ := M_law_grain.ex
  obtain ⟨_, _, G_law_amount, b_law_amount, g_law_amount, k_law_amount⟩ := M_law_amount.ex
  refine F.ok sc_law_plans (fun vs H Q E h => ?_) (fun cdv A outer s H vs Q E hr h => ?_)
  · obtain ⟨m, rfl, _⟩ := h
    rfl
  · obtain ⟨m, rfl, hm, k⟩ := h
    refine ⟨_, (pss_cons (ps_set (i := 2) sc_law_plans.nd rfl (Or.inl rfl) (pe_lst (pa_cons (pe_lst pa_nil) (pa_cons (pe_lst pa_nil) pa_nil))))
      (pss_cons (ps_for PassesOwn.never rfl (pi_range1 (by rfl) T.z_range (pa_cons (pe_op op_add pe_int (pe_call G_law_grain (hr.mono (by decide)) (by rfl) g_law_grain k_law_grain b_law_grain .nil pass0 (pa_cons (pv 0) (pa_cons pe_int pa_nil)))) pa_nil)) (pg_name (i := 3) sc_law_plans.nd rfl (Or.inl rfl)) (pss_cons (ps_par (i := 4) (j := 5) (by rfl) sc_law_plans.nd rfl rfl (by decide) rfl rfl (pa_cons (pe_call G_law_grain (hr.mono (by decide)) (by rfl) g_law_grain k_law_grain b_law_grain .nil pass0 (pa_cons (pv 0) (pa_cons pe_int pa_nil))) (pa_cons (pe_call G_law_amount (hr.mono (by decide)) (by rfl) g_law_amount k_law_amount b_law_amount .nil pass0 (pa_cons (pv 0) (pa_cons (pv 1) pa_nil))) pa_nil)) (by rfl))
      (pss_cons (ps_expr (pe_bm PySem.F.plainAttrs_list PySem.F.slot_list_append PySem.F.type_list_append mt_append (pe_ix ix_list (pv 2) (pv 4) (fun _ _ => rfl)) (pa_cons (pe_tup (pa_cons pe_str (pa_cons (pv 5) pa_nil))) pa_nil)))
      (pss_cons (ps_set (i := 6) sc_law_plans.nd rfl (Or.inl rfl) (pe_call G_law_grain (hr.mono (by decide)) (by rfl) g_law_grain k_law_grain b_law_grain .nil pass0 (pa_cons (pv 0) (pa_cons pe_int pa_nil))))
      (Evl.pss_cut (ps_if (pt_cmpR op_gt (pv 6) pe_int (nomark _)) (pss_one (ps_expr (pe_bm PySem.F.plainAttrs_list PySem.F.slot_list_append PySem.F.type_list_append mt_append (pe_ix ix_list (pv 2) (pe_op op_sub pe_int (pv 4)) (fun _ _ => rfl)) (pa_cons (pe_tup (pa_cons pe_str (pa_cons (pe_ifExp (pt_cmpR op_gt (pv 6) pe_int (nomark _)) (pv 5) (pe_call G_law_amount (hr.mono (by decide)) (by rfl) g_law_amount k_law_amount b_law_amount .nil pass0 (pa_cons (pv 0) (pa_cons (pv 1) pa_nil)))) pa_nil))) pa_nil)))) pss_nil)
      (pss_one (ps_if (pt_cmpR op_eq (pe_call G_law_grain (hr.mono (by decide)) (by rfl) g_law_grain k_law_grain b_law_grain .nil pass0 (pa_cons (pv 0) (pa_cons pe_int pa_nil))) pe_int (nomark _)) (pss_cons (ps_set (i := 7) sc_law_plans.nd rfl (Or.inl rfl) (pe_call G_law_grain (hr.mono (by decide)) (by rfl) g_law_grain k_law_grain b_law_grain .nil pass0 (pa_cons (pv 0) (pa_cons pe_int pa_nil))))
      (pss_one (ps_expr (pe_bm PySem.F.plainAttrs_list PySem.F.slot_list_append PySem.F.type_list_append mt_append (pe_ix ix_list (pv 2) (pe_call G_law_grain (hr.mono (by decide)) (by rfl) g_law_grain k_law_grain b_law_grain .nil pass0 (pa_cons (pv 0) (pa_cons pe_int pa_nil))) (fun _ _ => rfl)) (pa_cons (pe_tup (pa_cons pe_str (pa_cons (pv 7) (pa_cons (pe_op op_add (pv 7) (pe_call G_law_grain (hr.mono (by decide)) (by rfl) g_law_grain k_law_grain b_law_grain .nil pass0 (pa_cons (pv 0) (pa_cons pe_int pa_nil)))) pa_nil)))) pa_nil))))) pss_nil)))))))
      (pss_one (ps_ret (pe_tup (pa_cons (pe_callTy call_tuple_of (by rfl) T.z_tuple (by decide +kernel) (pa_cons (pe_slice sl_list (pe_ix ix_list (pv 2) pe_int (fun _ _ => rfl)) po_none (po_some pe_int)) pa_nil)) (pa_cons (pe_callTy call_tuple_of (by rfl) T.z_tuple (by decide +kernel) (pa_cons (pe_slice sl_list (pe_ix ix_list (pv 2) pe_int (fun _ _ => rfl)) po_none (po_some pe_int)) pa_nil)) pa_nil))))))), ?_⟩
    refine ⟨by show 0 ≤ sizeLine; decide, fun a0 h0 => ⟨by show 0 ≤ sizeLine; decide, fun a1 h1 => ⟨by show 2 ≤ sizeLine; decide, fun pl hpl => ?_⟩⟩⟩
    have n01 : a0 ≠ a1 := ne_of_none upd_same h1
    have s1 : Same H (L2.upd H a0 (.lst [])) := same_upd h0
    have s2 := s1.trans (same_upd h1 (o := .lst []))
    have a0H : (L2.upd (L2.upd H a0 (.lst [])) a1 (.lst [])) a0 = some (.lst []) := by rw [upd_ne n01]; exact upd_same
    have a1H : (L2.upd (L2.upd H a0 (.lst [])) a1 (.lst [])) a1 = some (.lst []) := upd_same
    have s3 := same_upd hpl (o := .lst [.ref a0, .ref a1])
    have p0 : PL H (L2.upd (L2.upd (L2.upd H a0 (.lst [])) a1 (.lst [])) pl (.lst [.ref a0, .ref a1])) m pl (fun b => if b then a1 else a0) (fun _ => []) (fun _ => []) 0 := by
      refine ⟨.of (s2.trans s3), hm.same (s2.trans s3), upd_same, fun b => ?_, fun b => .nil, fun b => ?_, n01, fun b => ?_, fun b => ?_, hm.ne ((s2.free hpl)), fun b it hi => absurd hi List.not_mem_nil, fun b => Nat.le_refl _⟩
      · cases b
        · exact s3 _ _ a0H
        · exact s3 _ _ a1H
      · cases b
        · exact h0
        · exact s1.free h1
      · cases b
        · exact (ne_of_none a0H hpl).symm
        · exact (ne_of_none a1H hpl).symm
      · cases b
        · exact hm.ne h0
        · exact hm.ne (s1.free h1)
    generalize L2.upd (L2.upd (L2.upd H a0 (.lst [])) a1 (.lst [])) pl (.lst [.ref a0, .ref a1]) = J0 at p0
    generalize (fun b : Bool => if b then a1 else a0) = pp at p0
    -- the rounds
    refine ⟨_, rfl, m, 4, rfl, p0.mill, by decide, by decide, fun H1 g s4 hm1 g0 g1 => ?_⟩
    have p1 := p0.step s4 hm1
    refine ⟨_, _, rfl, rfl, 1 + g, rfl, by omega, by omega, ?_⟩
    have hn : (1 + g).toNat ≤ 4 := by omega
    refine for_range (fun i σ H2 => ∃ rr ll v3 v4 v5 v6 v7, σ = [some (.ref m), some (.bl true), some (.ref pl), v3, v4, v5, v6, v7] ∧ PL H H2 m pl pp rr ll (3 * i)) ⟨_, _, _, _, _, _, _, rfl, p1⟩ ?_ ?_
    · rintro i σ H2 hi ⟨rr, ll, v3, v4, v5, v6, v7, rfl, p2⟩
      have big : ∀ {H3 : Hp} {rr ll N} (b : Bool), PL H H3 m pl pp rr ll N → N ≤ 1000 → (rr b).length < sizeLine := fun b p hN => by
        have h1 := p.rlen b
        have h2 := p.len b
        exact big_line (by omega)
      -- near, amount
      refine ⟨_, rfl, m, 2, rfl, p2.mill, by decide, by decide, fun H3 g3 s5 hm3 g30 g31 => ?_⟩
      obtain ⟨b, rfl⟩ := sI_of g30 g31
      have p3 := p2.step s5 hm3
      refine ⟨_, rfl, _, rfl, m, rfl, p3.mill, fun H4 am okam s6 hm4 => ⟨_, _, rfl, ?_⟩⟩
      have p4 := p3.step s6 hm4
      -- write
      refine ⟨_, rfl, _, rfl, pl, _, _, _, rfl, rfl, SqL.of p4.hp, p4.ix b, .inl ⟨rfl, _, SqL.of (p4.at_ b)⟩, _, rfl, by show 2 ≤ sizeLine; decide, fun t1 ht1 => ?_⟩
      have p5 := p4.new ht1 (.tup (rowT (.write am)))
      have p6 := p5.app b (it := .write am) upd_same okam
      refine ⟨pp b, _, _, rfl, rfl, p5.at_ b, big b p5 (by omega), ?_⟩
      -- way
      refine ⟨_, rfl, m, 8, rfl, p6.mill, by decide, by decide, fun H5 way s7 hm5 w0 w1 => ?_⟩
      have p7 := p6.step s7 hm5
      generalize (fun c => if c = b then rr b ++ [V.ref t1] else rr c) = rr7 at p7
      generalize (fun c => if c = b then ll b ++ [Item.write am] else ll c) = ll7 at p7
      refine ⟨fun σ' H' => ∃ rr ll, σ' = [some (.ref m), some (.bl true), some (.ref pl), some (.int (0 + i)), some (.int (sI b)), some (vA am), some (.int way), v7] ∧ PL H H' m pl pp rr ll (3 * i + 1 + 1), ?_, ?_⟩
      · refine ⟨_, rfl, _, _, rfl, rfl, _, rfl, ?_⟩
        refine ite2 (fun c => ?_) (fun c => ?_)
        · refine ⟨_, rfl, _, rfl, _, _, rfl, rfl, pl, _, _, V.ref (pp (!b)), rfl, rfl, SqL.of p7.hp, (by rw [sI_not]; exact p7.ix (!b)), .inl ⟨rfl, _, SqL.of (p7.at_ (!b))⟩, _, rfl, _, _, rfl, rfl, _, rfl, ?_⟩
          refine ite2 (fun c2 => ?_) (fun c2 => ?_)
          · refine ⟨_, rfl, by show 2 ≤ sizeLine; decide, fun t2 ht2 => ?_⟩
            have p8 := p7.new ht2 (.tup (rowT (.read am)))
            have p9 := p8.app (!b) (it := .read am) upd_same okam
            exact ⟨pp (!b), _, _, rfl, rfl, p8.at_ (!b), big (!b) p8 (by omega), _, _, rfl, p9⟩
          · refine ⟨_, rfl, _, rfl, m, rfl, p7.mill, fun H6 am2 okam2 s8 hm6 => ?_⟩
            have p7' := p7.step s8 hm6
            refine ⟨by show 2 ≤ sizeLine; decide, fun t2 ht2 => ?_⟩
            have p8 := p7'.new ht2 (.tup (rowT (.read am2)))
            have p9 := p8.app (!b) (it := .read am2) upd_same okam2
            exact ⟨pp (!b), _, _, rfl, rfl, p8.at_ (!b), big (!b) p8 (by omega), _, _, rfl, p9⟩
        · exact ⟨_, _, rfl, p7.more (by omega)⟩
      · rintro σ' H' ⟨rr8, ll8, rfl, p8⟩
        refine ⟨_, rfl, m, 5, rfl, p8.mill, by decide, by decide, fun H6 g6 s8 hm6 g60 g61 => ⟨rfl, _, rfl, ?_⟩⟩
        have p9 := p8.step s8 hm6
        refine ite2 (fun c => ?_) (fun c => ?_)
        · refine ⟨_, rfl, m, 6, rfl, p9.mill, by decide, by decide, fun H7 le s9 hm7 l0 l1 => ?_⟩
          have p10 := p9.step s9 hm7
          refine ⟨_, rfl, _, rfl, m, 2, rfl, p10.mill, by decide, by decide, fun H8 g8 s10 hm8 g80 g81 => ?_⟩
          obtain ⟨b2, rfl⟩ := sI_of g80 g81
          have p11 := p10.step s10 hm8
          refine ⟨pl, _, _, _, rfl, rfl, SqL.of p11.hp, p11.ix b2, .inl ⟨rfl, _, SqL.of (p11.at_ b2)⟩, _, rfl, _, rfl, _, rfl, m, 4, rfl, p11.mill, by decide, by decide, fun H9 g9 s11 hm9 g90 g91 => ?_⟩
          have p12 := p11.step s11 hm9
          refine ⟨_, _, rfl, rfl, by show 3 ≤ sizeLine; decide, fun t3 ht3 => ?_⟩
          have p13 := p12.new ht3 (.tup (rowT (.pause le (le + g9))))
          have p14 := p13.app b2 (it := .pause le (le + g9)) upd_same ⟨l0, by omega, by omega⟩
          exact ⟨pp b2, _, _, rfl, rfl, p13.at_ b2, big b2 p13 (by omega), _, _, _, _, _, _, _, rfl, p14.more (by omega)⟩
        · exact ⟨_, _, _, _, _, _, _, rfl, p9.more (by omega)⟩
    · rintro σ H2 ⟨rr, ll, v3, v4, v5, v6, v7, rfl, p2⟩
      refine ⟨_, rfl, pl, _, _, _, rfl, rfl, SqL.of p2.hp, p2.ix false, 6, rfl, pp false, _, rfl, SqL.of (p2.at_ false), fun c1 hc1 => ?_⟩
      rw [cut6]
      have p3 := p2.new hc1 (.lst ((rr false).take 6))
      refine ⟨c1, _, rfl, .inl ⟨SqL.of upd_same, fun a ha => ?_⟩⟩
      have p4 := p3.new ha (.tup ((rr false).take 6))
      refine ⟨_, rfl, pl, _, _, _, rfl, rfl, SqL.of p4.hp, p4.ix true, 6, rfl, pp true, _, rfl, SqL.of (p4.at_ true), fun c2 hc2 => ?_⟩
      rw [cut6]
      have p5 := p4.new hc2 (.lst ((rr true).take 6))
      refine ⟨c2, _, rfl, .inl ⟨SqL.of upd_same, fun b hb => ?_⟩⟩
      have p6 := p5.new hb (.tup ((rr true).take 6))
      refine ⟨by show 2 ≤ sizeLine; decide, fun t ht => ?_⟩
      have p7 := p6.new ht (.tup [.ref a, .ref b])
      have sa := ((same_upd hc2 (o := .lst ((rr true).take 6))).trans (same_upd hb (o := .tup ((rr true).take 6)))).trans (same_upd ht (o := .tup [.ref a, .ref b]))
      have hA := sa _ _ (upd_same (H := L2.upd H2 c1 (.lst ((rr false).take 6))) (a := a) (o := .tup ((rr false).take 6)))
      have hB := same_upd ht (o := .tup [.ref a, .ref b]) _ _ (upd_same (a := b) (o := .tup ((rr true).take 6)))
      refine k _ t a b _ _ ((ll false).take 6) ((ll true).take 6) p7.sb p7.mill upd_same ⟨hA, ?_⟩ ⟨hB, ?_⟩ (fun it hi => p7.ok false it (List.mem_of_mem_take hi)) (fun it hi => p7.ok true it (List.mem_of_mem_take hi)) (by rw [List.length_take]; omega) (by rw [List.length_take]; omega)
      · rw [List.map_take]; exact (p7.rows false).take 6
      · rw [List.map_take]; exact (p7.rows true).take 6
end
end Sh

namespace Sh
open PySem L2 PySem.Spec PyProof.Rows LamX
def rCatB (K : PySem.W.Frag) : R2 := fun x y H Q => ∃ a b xs ys, x = .ref a ∧ y = .ref b ∧ SqT K H a xs ∧ SqT K H b ys ∧ xs.length + ys.length ≤ sizeLine ∧ ∀ u H1, Same H H1 → SqT K H1 u (xs ++ ys) → Q (.ref u) H1
theorem op_catB {X : Cx} : OpR X (binaryOp .Add) (rCatB X.K) := by
  intro pins s σ H x y v u Q I rx ry h
  obtain ⟨a, b, xs, ys, rfl, rfl, ha, hb, hz, q⟩ := h
  refine op_catA pins s σ H _ _ v u Q I rx ry ⟨a, b, xs, ys, rfl, rfl, ha, hb, hz, fun e => q b H (Same.refl _) ?_, fun e1 e2 => q a H (Same.refl _) ?_, fun e1 e2 p hp => q p _ (same_upd hp) (SqT.of upd_same)⟩
  · rw [e, List.nil_append]; exact hb
  · rw [e2, List.append_nil]; exact ha
theorem sqT_sameB {K : PySem.W.Frag} {m a : Addr} {H H' : Hp} {xs : List V} (s : SameB m H H') (hm : MillAt H m) (h : SqT K H a xs) : SqT K H' a xs := by
  obtain ⟨x, y, z, hm, _⟩ := hm
  rcases h with h | h
  · rcases h with h | ⟨o, h⟩
    · exact .inl (.inl (s _ _ (ne_of h hm fun q => nomatch q) h))
    · exact .inl (.inr ⟨o, s _ _ (ne_of h hm fun q => nomatch q) h⟩)
  · exact .inr h
theorem sqT_lst {K : PySem.W.Frag} {D a : Addr} {H : Hp} {xs l : List V} {o : HO} (hD : H D = some (.lst l)) (h : SqT K H a xs) : SqT K (L2.upd H D o) a xs := by
  rcases h with h | h
  · rcases h with h | ⟨ob, h⟩
    · exact .inl (.inl (by rw [upd_ne (ne_of h hD fun q => nomatch q)]; exact h))
    · exact .inl (.inr ⟨ob, by rw [upd_ne (ne_of h hD fun q => nomatch q)]; exact h⟩)
  · exact .inr h
theorem Fits.snoc {ts : List Int} {l : List Item} {t lo hi : Int} (h : Fits ts l) (h0 : lo ≤ t) (h1 : t ≤ hi) : Fits (ts ++ [t]) (l ++ [.pause lo hi]) := by
  refine ⟨by rw [List.length_append, List.length_append, h.len]; rfl, fun i a lo' hi' e1 e2 => ?_⟩
  by_cases q : i < ts.length
  · rw [List.getElem?_append_left q] at e1
    rw [List.getElem?_append_left (by rw [← h.len]; exact q)] at e2
    exact h.fit i a lo' hi' e1 e2
  · rw [List.getElem?_append_right (by omega)] at e1
    rw [List.getElem?_append_right (by rw [← h.len]; omega), ← h.len] at e2
    have e : i - ts.length = 0 := by
      have := (List.getElem?_eq_some_iff.mp e1).1
      simp at this
      omega
    rw [e] at e1 e2
    have e3 := Option.some.inj e1
    have e4 := Option.some.inj e2
    cases e4
    rw [← e3]
    exact ⟨h0, h1⟩
section
variable {P : Program} {w : World} {K : PySem.W.Frag} {mg : Str → Option Value} {base : Heap} {C : AD}
abbrev s_law_choice : Stmt := topS 56
theorem sc_law_choice : FnScope ["_law_mill_here", "_law_plans_here", "_law_found", "_law_each"] ["_law_mill_here", "_law_plans_here"] (defScope s_law_choice) := ⟨rfl, rfl, rfl, by decide +kernel, rfl, by decide +kernel, by decide +kernel⟩
theorem ok_law_choice {f : Addr} {fd : FuncData} (F : Fun K "_law_choice" "_law_choice" s_law_choice f fd) (T : Txt K mg C)
    (M_law_grain : GOk P w K mg base "_law_grain" 1 ["_law_mill_here", "_law_many"] (sp_law_grain K C)) :
    FnOk P w K mg base CX0 2 f fd ["_law_mill_here", "_law_plans_here"] (sp_law_choice K C) := by
  obtain ⟨_, _, G_law_grain, b_law_grain, g_law_grain, k_law_grain⟩ := M_law_grain.ex
  refine F.ok sc_law_choice (fun vs H Q E h => ?_) (fun cdv A outer s H vs Q E hr h => ?_)
  · obtain ⟨m, t, a, b, va, vb, la, lb, rfl, _⟩ := h
    rfl
  · obtain ⟨m, t, a, b, va, vb, la, lb, rfl, hm, ht, ha, hb, oka, okb, l1, l2, k⟩ := h
    refine ⟨_, (pss_cons (ps_set (i := 2) sc_law_choice.nd rfl (Or.inl rfl) (pe_lst pa_nil))
      (pss_cons (ps_for PassesOwn.never rfl (pi_tup (pe_op op_catB (pe_ix ix_tup (pv 1) pe_int (fun _ _ => rfl)) (pe_ix ix_tup (pv 1) pe_int (fun _ _ => rfl)))) (pg_name (i := 3) sc_law_choice.nd rfl (Or.inl rfl)) (pss_one (ps_if (pt_cmpR op_eq (pe_ix ix_tup (pv 3) pe_int (fun _ _ => rfl)) pe_str (nomark _)) (pss_one (ps_expr (pe_bm PySem.F.plainAttrs_list PySem.F.slot_list_append PySem.F.type_list_append mt_append (pv 2) (pa_cons (pe_op op_add (pe_ix ix_tup (pv 3) pe_int (fun _ _ => rfl)) (pe_call G_law_grain (hr.mono (by decide)) (by rfl) g_law_grain k_law_grain b_law_grain .nil pass0 (pa_cons (pv 0) (pa_cons (pe_op op_add (pe_op op_sub (pe_ix ix_tup (pv 3) pe_int (fun _ _ => rfl)) (pe_ix ix_tup (pv 3) pe_int (fun _ _ => rfl))) pe_int) pa_nil)))) pa_nil)))) pss_nil)))
      (pss_one (ps_ret (pe_callTy call_tuple_of (by rfl) T.z_tuple (by decide +kernel) (pa_cons (pv 2) pa_nil)))))), ?_⟩
    have ea := ha.len
    have eb := hb.len
    refine ⟨by show 0 ≤ sizeLine; decide, fun D hD => ?_⟩
    have s0 := same_upd hD (o := .lst [])
    have nD : D ≠ m := hm.ne hD
    refine ⟨_, rfl, t, _, _, _, rfl, rfl, SqT.of (s0 _ _ ht), at0 _ _, _, rfl, t, _, _, .ref b, rfl, rfl, SqT.of (s0 _ _ ht), rfl, a, b, va, vb, rfl, rfl, SqT.of (s0 _ _ ha.tup), SqT.of (s0 _ _ hb.tup), Nat.le_trans (by omega : va.length + vb.length ≤ 12) (by decide), fun u H1 s1 hu => ?_⟩
    have hD1 : H1 D = some (.lst []) := s1 _ _ upd_same
    have rows : Tups H (va ++ vb) ((la ++ lb).map rowT) := by rw [List.map_append]; exact ha.rows.app hb.rows
    have okl : ∀ it ∈ la ++ lb, ItemOk it := fun it hi => by
      rcases List.mem_append.mp hi with q | q
      · exact oka it q
      · exact okb it q
    have s01 := s0.trans s1
    have lz : (va ++ vb).length = (la ++ lb).length := by rw [List.length_append, List.length_append, ea, eb]
    refine ⟨u, rfl, ⟨_, hu⟩, ?_⟩
    refine for_tup (K := K) (a := u) (xs := va ++ vb) (fun i σ H2 => ∃ (ts : List Int) (v3 : Option V), σ = [some (.ref m), some (.ref t), some (.ref D), v3] ∧ SameB m H H2 ∧ MillAt H2 m ∧ SqT K H2 u (va ++ vb) ∧ H2 D = some (.lst (ts.map V.int)) ∧ Fits ts (((la ++ lb).take i).filter isPau))
      ⟨[], none, rfl, .of s01, hm.same s01, hu, hD1, ⟨rfl, fun i t lo hi e => by simp at e⟩⟩ (fun i σ H2 _ h => ?_) ?_ ?_
    · obtain ⟨_, _, _, _, _, h, _⟩ := h
      exact h
    · rintro i x σ H2 hx ⟨ts, v3, rfl, s2, hm2, hu2, hD2, fit⟩
      obtain ⟨e, row, hrow, rfl, he⟩ := rows.get hx
      rw [List.getElem?_map] at hrow
      obtain ⟨it, hit, rfl⟩ : ∃ it, (la ++ lb)[i]? = some it ∧ rowT it = row := by
        cases e : (la ++ lb)[i]? with
        | none => rw [e] at hrow; cases hrow
        | some p => rw [e] at hrow; exact ⟨p, rfl, Option.some.inj hrow⟩
      have hi : i < (la ++ lb).length := (List.getElem?_eq_some_iff.mp hit).1
      have hi12 : i ≤ 12 := by rw [List.length_append] at hi; omega
      have he2 := s2.tup hm he
      have tk1 : (la ++ lb).take (i + 1) = (la ++ lb).take i ++ [it] := by rw [List.take_add_one, hit]; rfl
      have lts : ts.length ≤ 12 := by
        have h1 := fit.len
        have h2 := ((la ++ lb).take i).length_filter_le isPau
        rw [List.length_take] at h2
        omega
      cases hpau : isPau it with
      | false =>
        obtain ⟨q, a1, o, e1, _, _, e4, _⟩ := noPau 1 it hpau
        rw [e1] at he2
        refine ⟨_, rfl, e, _, _, _, rfl, rfl, SqT.of he2, at0 _ _, rfl, _, rfl, iteN (by simp only [decide_eq_true_eq]; exact fun z => e4 (V.str.inj z)) ?_⟩
        refine ⟨ts, _, rfl, s2, hm2, hu2, hD2, ?_⟩
        rw [tk1, List.filter_append]
        have : [it].filter isPau = [] := by simp [hpau]
        rw [this, List.append_nil]
        exact fit
      | true =>
        obtain ⟨lo, hi', rfl⟩ : ∃ lo hi, it = .pause lo hi := by
          cases it with
          | write a => cases hpau
          | read a => cases hpau
          | pause lo hi => exact ⟨_, _, rfl⟩
        obtain ⟨k0, k1, k2⟩ : 0 ≤ lo ∧ lo ≤ hi' ∧ hi' ≤ 200 := okl _ (List.mem_of_getElem? hit)
        refine ⟨_, rfl, e, _, _, _, rfl, rfl, SqT.of he2, at0 _ _, rfl, true, rfl, iteY rfl ?_⟩
        refine ⟨_, rfl, .inl ⟨rfl, _, SqL.of hD2⟩, _, rfl, e, _, _, _, rfl, rfl, SqT.of he2, rfl, _, rfl, _, rfl, e, _, _, _, rfl, rfl, SqT.of he2, rfl, _, rfl, e, _, _, _, rfl, rfl, SqT.of he2, rfl, _, _, rfl, rfl, _, _, rfl, rfl, m, hi' - lo + 1, rfl, hm2, by omega, by omega, fun H3 g s3 hm3 g0 g1 => ?_⟩
        have hD3 := s3 _ _ nD hD2
        refine ⟨_, _, rfl, rfl, D, _, _, rfl, rfl, hD3, by rw [List.length_map]; exact big_line (by omega), ?_⟩
        obtain ⟨x1, x2, x3, hmm, xr⟩ := id hm3
        refine ⟨ts ++ [lo + g], _, rfl, fun c o n z => ?_, ⟨x1, x2, x3, by rw [upd_ne nD.symm]; exact hmm, xr⟩, sqT_lst hD3 (sqT_sameB s3 hm2 hu2), by rw [upd_same, List.map_append]; rfl, ?_⟩
        · rw [upd_ne (ne_of_none z hD)]; exact (s2.trans s3) _ _ n z
        · rw [tk1, List.filter_append]
          exact fit.snoc (by omega) (by omega)
    · rintro σ H2 ⟨ts, v3, rfl, s2, hm2, hu2, hD2, fit⟩
      rw [List.take_of_length_le (by omega)] at fit
      refine ⟨_, rfl, D, _, rfl, .inl ⟨SqL.of hD2, fun tk htk => ?_⟩⟩
      exact k _ tk ts (s2.trans (.of (same_upd htk))) (hm2.same (same_upd htk)) upd_same fit
end
end Sh

namespace Sh
open PySem L2 PySem.Spec PyProof.Rows LamX
theorem hu64 {k : Nat} {A : Around} (hr : Room k A) : A.units + 64 < cLine := by have := hr.un; omega
/-- all stays but m and the tables -/
def SX (m : Addr) (H H' : Hp) : Prop := ∀ b o, b ≠ m → H b = some o → (∀ ps, o ≠ .tbl ps) → H' b = some o
section
variable {m x : Addr} {H H1 H2 H' : Hp} {C : AD}
theorem SX.refl (m : Addr) (H : Hp) : SX m H H := fun _ _ _ h _ => h
theorem SX.trans (a : SX m H H1) (b : SX m H1 H2) : SX m H H2 := fun c o n h k => b c o n (a c o n h k) k
theorem SX.ofB (s : SameB m H H') : SX m H H' := fun b o n h _ => s b o n h
theorem SX.of (s : Same H H') : SX m H H' := fun b o _ h _ => s b o h
theorem SX.ofN (s : ExtN H H') : SX m H H' := fun b o _ h n => s b o h n
theorem MillAt.extN (h : MillAt H m) (s : ExtN H H') : MillAt H' m := by
  obtain ⟨a, b, c, h, r⟩ := h
  exact ⟨a, b, c, s _ _ h (fun ps z => nomatch z), r⟩
theorem SX.tup {xs : List V} (s : SX m H H') (hm : MillAt H m) (h : H x = some (.tup xs)) : H' x = some (.tup xs) := s _ _ (hm.neT h) h fun ps z => nomatch z
theorem SX.ins {c dx : Addr} {fs : List (Str × V)} (s : SX m H H') (hm : MillAt H m) (h : H x = some (.ins c dx fs)) : H' x = some (.ins c dx fs) := by
  obtain ⟨a1, a2, a3, hmm, _⟩ := hm
  exact s _ _ (ne_of h hmm fun z => nomatch z) h fun ps z => nomatch z
theorem SX.prog {a : Addr} {va : List V} {la : List Item} (s : SX m H H') (hm : MillAt H m) (h : ProgAt H a va la) : ProgAt H' a va la := ⟨s.tup hm h.tup, h.rows.keep' fun _ _ e => s.tup hm e⟩
theorem SX.told {t c d : Addr} {L : Ln} (s : SX m H H') (hm : MillAt H m) (h : ToldAt H t c d L) : ToldAt H' t c d L := ⟨s.tup hm h.t, s.tup hm h.c, s.tup hm h.d⟩
theorem SX.run {r : Addr} {S : Sy} (s : SX m H H') (hm : MillAt H m) (h : RunAt C H r S) : RunAt C H' r S := by
  obtain ⟨dx, e, p, a, hd, u, l, q, h1, h2, h3, h4⟩ := h
  exact ⟨dx, e, p, a, hd, u, l, q, s.ins hm h1, s.tup hm h2, s.tup hm h3, s.tup hm h4⟩
end
/-- the frame of the law's round: only the mill is known -/
def FrR (m : Addr) (σ : L2.St) : Prop := ∃ v1 v2 v3 v4 v5 v6 v7 v8 v9 v10 v11 v12 v13 v14 v15 v16 v17, σ = [some (.ref m), v1, v2, v3, v4, v5, v6, v7, v8, v9, v10, v11, v12, v13, v14, v15, v16, v17]
def plainL (L : Ln) : Ln := ⟨L.size, L.way, fun b => ⟨.plain, (L.st b).every, (L.st b).delay⟩⟩
theorem plainL_ok {L : Ln} (h : LinOk L) : LinOk (plainL L) := ⟨h.s1, h.s2, h.w1, h.w2, fun b => ⟨(h.st b).e1, (h.st b).e2, (h.st b).d1, (h.st b).d2⟩⟩
def sp_law_right (_ : PySem.W.Frag) (C : AD) : Sp := fun vs H Q _ => ∃ m, vs = [.ref m] ∧ MillAt H m ∧ Tabs (TT C) H ∧ ∀ H', SX m H H' → Tabs (TT C) H' → Q (.bl true) H'
theorem optV_nonD (e : Option Int) : decide (optV e = .non) = decide (e = none) := by cases e <;> simp [optV]
theorem pairV {u v x : V} {i : Nat} (h : [u, v][i]? = some x) : (i = 0 ∧ x = u) ∨ (i = 1 ∧ x = v) := by
  match i, h with
  | 0, h => exact .inl ⟨rfl, (Option.some.inj h).symm⟩
  | 1, h => exact .inr ⟨rfl, (Option.some.inj h).symm⟩
  | i + 2, h => simp at h
section
variable {P : Program} {w : World} {K : PySem.W.Frag} {mg : Str → Option Value} {base : Heap} {C : AD}
abbrev s_law_right : Stmt := topS 57
theorem sc_law_right : FnScope ["_law_mill_here", "_law_again", "_law_told_here", "_law_plans_here", "_law_many", "_law_a", "_law_b", "_law_c", "_law_d", "_law_ticks", "_law_found", "_law_plain", "_law_quick", "_law_first", "_law_last", "_law_other_here", "_law_mate", "_law_end"] ["_law_mill_here"] (defScope s_law_right) := ⟨rfl, rfl, rfl, by decide +kernel, rfl, by decide +kernel, by decide +kernel⟩
theorem ok_law_right {f : Addr} {fd : FuncData} (F : Fun K "_law_right" "_law_right" s_law_right f fd) (T : Txt K mg C)
    (Mrun : KOk P w K mg base "run" 9 ["line", "one", "other", "x", "pauses"] ["x", "pauses"] (sprun K C))
    (M_law_made : GOk P w K mg base "_law_made" 6 ["_law_told_here"] (sp_law_made K C))
    (M_law_ways : GOk P w K mg base "_law_ways" 3 ["_law_mill_here"] (sp_law_ways K C))
    (M_law_grain : GOk P w K mg base "_law_grain" 1 ["_law_mill_here", "_law_many"] (sp_law_grain K C))
    (M_law_pick : GOk P w K mg base "_law_pick" 2 ["_law_mill_here", "_law_things"] (sp_law_pick K C))
    (M_law_choice : GOk P w K mg base "_law_choice" 2 ["_law_mill_here", "_law_plans_here"] (sp_law_choice K C))
    (M_law_plans : GOk P w K mg base "_law_plans" 4 ["_law_mill_here", "_law_letter"] (sp_law_plans K C))
    (M_law_told : GOk P w K mg base "_law_told" 4 ["_law_mill_here"] (sp_law_told K C)) :
    FnOk P w K mg base CX0 10 f fd ["_law_mill_here"] (sp_law_right K C) := by
  obtain ⟨_, _, Grun, brun, grun, krun⟩ := Mrun.ex
  obtain ⟨_, _, G_law_made, b_law_made, g_law_made, k_law_made⟩ := M_law_made.ex
  obtain ⟨_, _, G_law_ways, b_law_ways, g_law_ways, k_law_ways⟩ := M_law_ways.ex
  obtain ⟨_, _, G_law_grain, b_law_grain, g_law_grain, k_law_grain⟩ := M_law_grain.ex
  obtain ⟨_, _, G_law_pick, b_law_pick, g_law_pick, k_law_pick⟩ := M_law_pick.ex
  obtain ⟨_, _, G_law_choice, b_law_choice, g_law_choice, k_law_choice⟩ := M_law_choice.ex
  obtain ⟨_, _, G_law_plans, b_law_plans, g_law_plans, k_law_plans⟩ := M_law_plans.ex
  obtain ⟨_, _, G_law_told, b_law_told, g_law_told, k_law_told⟩ := M_law_told.ex
  refine F.ok sc_law_right (fun vs H Q E h => ?_) (fun cdv A outer s H vs Q E hr h => ?_)
  · obtain ⟨m, rfl, _⟩ := h
    rfl
  · obtain ⟨m, rfl, hm0, tT0, k⟩ := h
    refine ⟨_, (pss_cons (ps_for PassesOwn.never rfl (pi_range1 (by rfl) T.z_range (pa_cons pe_int pa_nil)) (pg_name (i := 1) sc_law_right.nd rfl (Or.inl rfl)) (pss_cons (ps_par3 (i := 2) (j := 3) (l := 4) (by rfl) sc_law_right.nd rfl rfl rfl (by decide) (by decide) (by decide) rfl rfl rfl (pa_cons (pe_call G_law_told (hr.mono (by decide)) (by rfl) g_law_told k_law_told b_law_told .nil pass0 (pa_cons (pv 0) pa_nil)) (pa_cons (pe_call G_law_plans (hr.mono (by decide)) (by rfl) g_law_plans k_law_plans b_law_plans .nil pass0 (pa_cons (pv 0) (pa_cons pe_bl pa_nil))) (pa_cons (pe_op op_add pe_int (pe_call G_law_grain (hr.mono (by decide)) (by rfl) g_law_grain k_law_grain b_law_grain .nil pass0 (pa_cons (pv 0) (pa_cons pe_int pa_nil)))) pa_nil))) (by rfl))
      (pss_cons (ps_asg (pv 2) (pg_tup rfl (pgs_cons (pg_name (i := 5) sc_law_right.nd rfl (Or.inl rfl)) (pgs_cons (pg_name (i := 6) sc_law_right.nd rfl (Or.inl rfl)) (pgs_cons (pg_name (i := 7) sc_law_right.nd rfl (Or.inl rfl)) (pgs_cons (pg_name (i := 8) sc_law_right.nd rfl (Or.inl rfl)) pgs_nil))))))
      (pss_cons (ps_set (i := 9) sc_law_right.nd rfl (Or.inl rfl) (pe_call G_law_choice (hr.mono (by decide)) (by rfl) g_law_choice k_law_choice b_law_choice .nil pass0 (pa_cons (pv 0) (pa_cons (pv 3) pa_nil))))
      (pss_cons (ps_set (i := 10) sc_law_right.nd rfl (Or.inl rfl) (pe_callK Grun (hr.mono (by decide)) (by rfl) grun krun brun pass0 (pa_cons (pe_call G_law_made (hr.mono (by decide)) (by rfl) g_law_made k_law_made b_law_made .nil pass0 (pa_cons (pv 2) pa_nil)) (pa_cons (pe_ix ix_tup (pv 3) pe_int (fun _ _ => rfl)) (pa_cons (pe_ix ix_tup (pv 3) pe_int (fun _ _ => rfl)) pa_nil))) (pk_cons (pv 4) (pk_cons (pv 9) pk_nil))))
      (pss_cons (ps_set (i := 11) sc_law_right.nd rfl (Or.inl rfl) (pe_call G_law_made (hr.mono (by decide)) (by rfl) g_law_made k_law_made b_law_made .nil pass0 (pa_cons (pe_tup (pa_cons (pv 5) (pa_cons (pv 6) (pa_cons (pe_tup (pa_cons pe_str (pa_cons (pe_ix ix_tup (pv 7) pe_int (fun _ _ => rfl)) (pa_cons (pe_ix ix_tup (pv 7) pe_int (fun _ _ => rfl)) pa_nil)))) (pa_cons (pe_tup (pa_cons pe_str (pa_cons (pe_ix ix_tup (pv 8) pe_int (fun _ _ => rfl)) (pa_cons (pe_ix ix_tup (pv 8) pe_int (fun _ _ => rfl)) pa_nil)))) pa_nil))))) pa_nil)))
      (pss_cons (ps_set (i := 12) sc_law_right.nd rfl (Or.inl rfl) (pe_callK Grun (hr.mono (by decide)) (by rfl) grun krun brun pass0 (pa_cons (pv 11) (pa_cons (pe_ix ix_tup (pv 3) pe_int (fun _ _ => rfl)) (pa_cons (pe_ix ix_tup (pv 3) pe_int (fun _ _ => rfl)) pa_nil))) (pk_cons (pv 4) (pk_cons (pv 9) pk_nil))))
      (Evl.pss_cut (ps_for PassesOwn.never rfl (RZ.pi_zipA (by rfl) T.z_zip (pa_cons (pe_fld (pv 12) rfl) (pa_cons (pe_fld (pv 10) rfl) pa_nil))) (pg_tup rfl (pgs_cons (pg_name (i := 13) sc_law_right.nd rfl (Or.inl rfl)) (pgs_cons (pg_name (i := 14) sc_law_right.nd rfl (Or.inl rfl)) pgs_nil))) (pss_one (ps_if (PW.pt (pw_or (pt_cmpR op_ne (pe_cmpR op_isN (pv 13) pe_non (nomark _)) (pe_cmpR op_isN (pv 14) pe_non (nomark _)) (nomark _)) (pw_or1 (PW.pt (pw_and (pt_cmpR op_notN (pv 13) pe_non (nomark _)) (pw_and1 (pt_cmpR op_gt (pv 13) (pv 14) (nomark _)))))))) (pss_one (ps_ret pe_bl)) pss_nil)))
      (Evl.pss_cut (ps_if (PW.pt (pw_or (pt_cmpR (op_neD (hu64 hr)) (pe_fld (pv 12) rfl) (pe_tup (pa_cons pe_int (pa_cons pe_int pa_nil))) (nomark _)) (pw_or (pt_cmpR op_gt (pe_ix ix_tup (pe_fld (pv 10) rfl) pe_int (fun _ _ => rfl)) (pe_op op_add (pe_op op_mul pe_int (pv 6)) (pe_ix ix_tup (pv 8) pe_int (fun _ _ => rfl))) (nomark _)) (pw_or1 (pt_cmpR op_gt (pe_ix ix_tup (pe_fld (pv 10) rfl) pe_int (fun _ _ => rfl)) (pe_op op_add (pe_op op_mul pe_int (pv 6)) (pe_ix ix_tup (pv 7) pe_int (fun _ _ => rfl))) (nomark _)))))) (pss_one (ps_ret pe_bl)) pss_nil)
      (pss_cons (ps_set (i := 15) sc_law_right.nd rfl (Or.inl rfl) (pe_tup (pa_cons (pe_call G_law_pick (hr.mono (by decide)) (by rfl) g_law_pick k_law_pick b_law_pick .nil pass0 (pa_cons (pv 0) (pa_cons (pe_lst (pa_cons pe_int (pa_cons pe_int (pa_cons pe_int pa_nil)))) pa_nil))) (pa_cons (pe_op op_add pe_int (pe_call G_law_grain (hr.mono (by decide)) (by rfl) g_law_grain k_law_grain b_law_grain .nil pass0 (pa_cons (pv 0) (pa_cons pe_int pa_nil)))) (pa_cons (pe_call G_law_ways (hr.mono (by decide)) (by rfl) g_law_ways k_law_ways b_law_ways .nil pass0 (pa_cons (pv 0) pa_nil)) (pa_cons (pe_call G_law_ways (hr.mono (by decide)) (by rfl) g_law_ways k_law_ways b_law_ways .nil pass0 (pa_cons (pv 0) pa_nil)) pa_nil))))))
      (pss_cons (ps_set (i := 16) sc_law_right.nd rfl (Or.inl rfl) (pe_callK Grun (hr.mono (by decide)) (by rfl) grun krun brun pass0 (pa_cons (pe_call G_law_made (hr.mono (by decide)) (by rfl) g_law_made k_law_made b_law_made .nil pass0 (pa_cons (pv 15) pa_nil)) (pa_cons (pe_ix ix_tup (pv 3) pe_int (fun _ _ => rfl)) (pa_cons (pe_ix ix_tup (pv 3) pe_int (fun _ _ => rfl)) pa_nil))) (pk_cons (pv 4) (pk_cons (pv 9) pk_nil))))
      (Evl.pss_cut (ps_if (PW.pt (pw_or (pt_cmpR op_ne (pe_fld (pv 16) rfl) (pe_fld (pv 10) rfl) (nomark _)) (pw_or1 (pt_cmpR (op_neD (hu64 hr)) (pe_fld (pv 16) rfl) (pe_fld (pv 10) rfl) (nomark _))))) (pss_one (ps_ret pe_bl)) pss_nil)
      (pss_one (ps_if (pt_cmpR (op_neD (hu64 hr)) (pe_lc (own := [("_law_end", 17)]) rfl sc_law_right.nd (pi_tup (pe_fld (pv 16) rfl)) (blkOk_by (N := ["_law_mill_here", "_law_again", "_law_told_here", "_law_plans_here", "_law_many", "_law_a", "_law_b", "_law_c", "_law_d", "_law_ticks", "_law_found", "_law_plain", "_law_quick", "_law_first", "_law_last", "_law_other_here", "_law_mate", "_law_end"]) (sc := defScope s_law_right) (by decide +kernel)) (fun _ _ _ _ _ => by exact (pg_name (i := 17) sc_law_right.nd rfl (Or.inl rfl))) (fun _ _ _ _ _ => by exact pts_nil) (fun _ _ _ _ _ => by exact (pe_cmpR op_isN (pv 17) pe_non (nomark _)))) (pe_lc (own := [("_law_end", 17)]) rfl sc_law_right.nd (pi_tup (pe_fld (pv 10) rfl)) (blkOk_by (N := ["_law_mill_here", "_law_again", "_law_told_here", "_law_plans_here", "_law_many", "_law_a", "_law_b", "_law_c", "_law_d", "_law_ticks", "_law_found", "_law_plain", "_law_quick", "_law_first", "_law_last", "_law_other_here", "_law_mate", "_law_end"]) (sc := defScope s_law_right) (by decide +kernel)) (fun _ _ _ _ _ => by exact (pg_name (i := 17) sc_law_right.nd rfl (Or.inl rfl))) (fun _ _ _ _ _ => by exact pts_nil) (fun _ _ _ _ _ => by exact (pe_cmpR op_isN (pv 17) pe_non (nomark _)))) (nomark _)) (pss_one (ps_ret pe_bl)) pss_nil))))))))))))))
      (pss_one (ps_ret pe_bl))), ?_⟩
    refine ⟨6, rfl, by decide, by decide, ?_⟩
    refine for_range (fun i σ H' => FrR m σ ∧ SX m H H' ∧ MillAt H' m ∧ Tabs (TT C) H') ⟨⟨_, _, _, _, _, _, _, _, _, _, _, _, _, _, _, _, _, rfl⟩, .refl m H, hm0, tT0⟩ ?_ ?_
    · rintro i σ H0 hi ⟨⟨v1, v2, v3, v4, v5, v6, v7, v8, v9, v10, v11, v12, v13, v14, v15, v16, v17, rfl⟩, sx, hm, tT⟩
      -- told, plans, many
      refine ⟨_, rfl, m, rfl, hm, fun H1 t c d L okL s1 hm1 told1 => ?_⟩
      refine ⟨_, rfl, m, rfl, hm1, fun H2 tp a b va vb la lb s2 hm2 htp2 pa2 pb2 oka okb l1 l2 => ?_⟩
      refine ⟨_, rfl, m, 80, rfl, hm2, by decide, by decide, fun H3 g s3 hm3 g0 g1 => ⟨_, _, rfl, rfl, _, _, _, rfl, ?_⟩⟩
      have told3 := (SX.ofB (s2.trans s3)).told hm1 told1
      have htp3 := (SX.ofB s3).tup hm2 htp2
      have pa3 := (SX.ofB s3).prog hm2 pa2
      have pb3 := (SX.ofB s3).prog hm2 pb2
      have tT3 := s3.tabs hm2 (s2.tabs hm1 (s1.tabs hm tT))
      have sx3 := sx.trans (.ofB ((s1.trans s2).trans s3))
      -- a, b, c, d
      refine ⟨_, rfl, t, _, rfl, SqT.of told3.t, rfl, _, _, rfl, _, _, rfl, _, _, rfl, _, _, rfl, rfl, ?_⟩
      -- ticks
      refine ⟨_, rfl, _, rfl, m, tp, a, b, va, vb, la, lb, rfl, hm3, htp3, pa3, pb3, oka, okb, l1, l2, fun H4 tk ts s4 hm4 htk4 fit => ?_⟩
      have told4 := (SX.ofB s4).told hm3 told3
      have htp4 := (SX.ofB s4).tup hm3 htp3
      have pa4 := (SX.ofB s4).prog hm3 pa3
      have pb4 := (SX.ofB s4).prog hm3 pb3
      have tT4 := s4.tabs hm3 tT3
      have sx4 := sx3.trans (.ofB s4)
      -- found
      refine ⟨_, rfl, t, c, d, L, rfl, told4, okL, fun H5 ln near far s5 hln => ?_⟩
      have htp5 := s5 _ _ htp4
      refine ⟨_, rfl, tp, _, _, _, rfl, rfl, SqT.of htp5, at0 _ _, _, rfl, tp, _, _, .ref b, rfl, rfl, SqT.of htp5, rfl, _, rfl, _, rfl, ln, near, far, a, b, tk, L, 1 + g, va, vb, la, lb, ts, rfl,
        ⟨hln, okL, pa4.same s5, pb4.same s5, oka, okb, l1, l2, by omega, by omega, s5 _ _ htk4, fit⟩, Tabs.same tT4 s5, fun H6 r1 S e6 tT6 dn1 run1 => ?_⟩
      have x46 : SX m H4 H6 := (SX.of s5).trans (.ofN e6)
      have hm6 := (hm4.same s5).extN e6
      have told6 := x46.told hm4 told4
      have htp6 := x46.tup hm4 htp4
      have htk6 := x46.tup hm4 htk4
      have pa6 := x46.prog hm4 pa4
      have pb6 := x46.prog hm4 pb4
      have sx6 := sx4.trans x46
      -- plain
      refine ⟨_, rfl, _, rfl, _, rfl, c, _, _, _, rfl, rfl, SqT.of told6.c, rfl, _, rfl, c, _, _, _, rfl, rfl, SqT.of told6.c, rfl, by show 3 ≤ sizeLine; decide, fun c' hc' => ?_⟩
      have s7 := same_upd hc' (o := .tup [.str "plain", .int (L.st false).every, .int (L.st false).delay])
      have hd7 := s7 _ _ told6.d
      refine ⟨_, rfl, d, _, _, _, rfl, rfl, SqT.of hd7, rfl, _, rfl, d, _, _, _, rfl, rfl, SqT.of hd7, rfl, by show 3 ≤ sizeLine; decide, fun d' hd' => ?_⟩
      have s8 := same_upd hd' (o := .tup [.str "plain", .int (L.st true).every, .int (L.st true).delay])
      refine ⟨by show 4 ≤ sizeLine; decide, fun t' ht' => ?_⟩
      have s9 := same_upd ht' (o := .tup [.int L.size, .int L.way, .ref c', .ref d'])
      have toldP : ToldAt (L2.upd (L2.upd (L2.upd H6 c' (.tup [.str "plain", .int (L.st false).every, .int (L.st false).delay])) d' (.tup [.str "plain", .int (L.st true).every, .int (L.st true).delay])) t' (.tup [.int L.size, .int L.way, .ref c', .ref d'])) t' c' d' (plainL L) :=
        ⟨upd_same, s9 _ _ (s8 _ _ upd_same), s9 _ _ upd_same⟩
      refine ⟨t', c', d', plainL L, rfl, toldP, plainL_ok okL, fun H10 lnP nearP farP s10 hlnP => ?_⟩
      have s610 : Same H6 H10 := ((s7.trans s8).trans s9).trans s10
      have hm10 := hm6.same s610
      have told10 := (SX.of s610).told hm6 told6
      have htp10 := s610 _ _ htp6
      have run10 := (SX.of s610).run hm6 run1
      -- quick
      refine ⟨_, rfl, _, rfl, tp, _, _, _, rfl, rfl, SqT.of htp10, at0 _ _, _, rfl, tp, _, _, .ref b, rfl, rfl, SqT.of htp10, rfl, _, rfl, _, rfl, lnP, nearP, farP, a, b, tk, plainL L, 1 + g, va, vb, la, lb, ts, rfl,
        ⟨hlnP, plainL_ok okL, pa6.same s610, pb6.same s610, oka, okb, l1, l2, by omega, by omega, s610 _ _ htk6, fit⟩, Tabs.same tT6 s610, fun H11 r2 S2 e11 tT11 dn2 run2 => ?_⟩
      have x11 : SX m H6 H11 := (SX.of s610).trans (.ofN e11)
      have hm11 := hm10.extN e11
      have told11 := x11.told hm6 told6
      have htp11 := x11.tup hm6 htp6
      have htk11 := x11.tup hm6 htk6
      have pa11 := x11.prog hm6 pa6
      have pb11 := x11.prog hm6 pb6
      have run11 := x11.run hm6 run1
      have sx11 := sx6.trans x11
      -- the plain law
      have okP : ∀ b, ∀ o ∈ progs (1 + g) la lb ts b, OpOk o := fun d o ho => by
        have hp := fits_pos fit (fun it h => (List.mem_filter.mp h).2) (fun it h => by
          rcases List.mem_append.mp (List.mem_filter.mp h).1 with q | q
          · exact oka _ q
          · exact okb _ q)
        cases d
        · exact (opsOf_ok (by omega) (by omega) oka hp o ho).1
        · exact (opsOf_ok (by omega) (by omega) okb (fun t ht => hp t (List.mem_of_mem_drop ht)) o ho).1
      have hPl : Plain (plainL L) := fun b => rfl
      have endI : ∀ b, (S2.c b).ended = none ↔ (S.c b).ended = none := ended_iff (plainL_ok okL).ok okL.ok okP dn2 dn1
      have endL : ∀ b x y, (S2.c b).ended = some x → (S.c b).ended = some y → x ≤ y := fun b x y hx hy => ended_le (plainL_ok okL).ok okL.ok hPl (Int.le_refl _) okP dn2 dn1 hx hy
      have held2 : ∀ b, (S2.f.s b).long = 0 := plain_held (plainL_ok okL).ok hPl okP dn2
      have held1 : ∀ b, (S.f.s b).long ≤ 2 * L.way + (L.st (!b)).delay := held_le okL.ok okP dn1
      have pair : ∀ b, ((S2.c b).ended = none ∧ (S.c b).ended = none) ∨ ∃ x y, (S2.c b).ended = some x ∧ (S.c b).ended = some y ∧ x ≤ y := fun b => by
        cases h1 : (S2.c b).ended with
        | none => exact .inl ⟨rfl, (endI b).mp h1⟩
        | some x =>
          cases h2 : (S.c b).ended with
          | none => rw [(endI b).mpr h2] at h1; cases h1
          | some y => exact .inr ⟨x, y, rfl, rfl, endL b x y h1 h2⟩
      obtain ⟨dx1, e1, p1, an1, hd1, u1, al1, q1, ri1, re1, rh1, ru1⟩ := id run11
      obtain ⟨dx2, e2, p2, an2, hd2, u2, al2, q2, ri2, re2, rh2, ru2⟩ := id run2
      -- for first, last in zip(..)
      refine ⟨fun σ' H' => (∃ w13 w14, σ' = [some (.ref m), some (.int (0 + i)), some (.ref t), some (.ref tp), some (.int (1 + g)), some (.int L.size), some (.int L.way), some (.ref c), some (.ref d), some (.ref tk), some (.ref r1), some (.ref lnP), some (.ref r2), w13, w14, v15, v16, v17]) ∧ Same H11 H', ?_, ?_⟩
      · refine ⟨_, rfl, r2, C.Run, dx2, _, _, rfl, ri2, T.cl_Run, T.n_Run_ends, rfl, _, rfl, r1, C.Run, dx1, _, _, rfl, ri1, T.cl_Run, T.n_Run_ends, rfl, e2, e1, _, _, rfl, .inr ⟨SqT.of re2, SqT.of re1, ?_⟩⟩
        refine RZ.for_zipT (K := K) (a := e2) (b := e1) (xs := [optV (S2.c false).ended, optV (S2.c true).ended]) (ys := [optV (S.c false).ended, optV (S.c true).ended]) rfl (fun j σ' H' => (∃ w13 w14, σ' = [some (.ref m), some (.int (0 + i)), some (.ref t), some (.ref tp), some (.int (1 + g)), some (.int L.size), some (.int L.way), some (.ref c), some (.ref d), some (.ref tk), some (.ref r1), some (.ref lnP), some (.ref r2), w13, w14, v15, v16, v17]) ∧ Same H11 H')
          ⟨⟨_, _, rfl⟩, Same.refl _⟩ (fun j σ' H' h => ⟨SqT.of (h.2 _ _ re2), SqT.of (h.2 _ _ re1)⟩) ?_ ?_
        · rintro j x y Tz σ' H' hx hy ⟨⟨w13, w14, rfl⟩, sz⟩ hT
          have sz2 := sz.trans (same_upd hT (o := .tup [x, y]))
          have hxy : ∃ b, x = optV (S2.c b).ended ∧ y = optV (S.c b).ended := by
            rcases pairV hx with ⟨rfl, rfl⟩ | ⟨rfl, rfl⟩
            · exact ⟨false, rfl, (Option.some.inj hy).symm⟩
            · exact ⟨true, rfl, (Option.some.inj hy).symm⟩
          obtain ⟨bb, rfl, rfl⟩ := hxy
          refine ⟨Tz, _, rfl, SqT.of upd_same, rfl, _, _, rfl, _, _, rfl, rfl, ?_⟩
          rcases pair bb with ⟨z1, z2⟩ | ⟨x, y, z1, z2, z3⟩
          · rw [z1, z2] at sz2 ⊢
            refine ⟨_, rfl, rfl, _, rfl, rfl, rfl, false, rfl, iteN (by decide) ?_⟩
            refine ⟨_, rfl, rfl, false, rfl, iteN (by decide) ?_⟩
            exact iteN (by decide) ⟨⟨_, _, rfl⟩, sz2⟩
          · rw [z1, z2] at sz2 ⊢
            refine ⟨_, rfl, rfl, _, rfl, rfl, rfl, false, rfl, iteN (by decide) ?_⟩
            refine ⟨_, rfl, rfl, true, rfl, iteY rfl ?_⟩
            refine ⟨_, rfl, _, rfl, _, _, rfl, rfl, _, rfl, ?_⟩
            exact iteN (by simp; omega) ⟨⟨_, _, rfl⟩, sz2⟩
        · rintro σ' H' h
          exact h
      rintro σ' H12 ⟨⟨w13, w14, rfl⟩, s12⟩
      have hm12 := hm11.same s12
      -- held
      refine ⟨fun σ' H' => σ' = [some (.ref m), some (.int (0 + i)), some (.ref t), some (.ref tp), some (.int (1 + g)), some (.int L.size), some (.int L.way), some (.ref c), some (.ref d), some (.ref tk), some (.ref r1), some (.ref lnP), some (.ref r2), w13, w14, v15, v16, v17] ∧ Same H11 H', ?_, ?_⟩
      · refine ⟨_, rfl, r2, C.Run, dx2, _, _, rfl, s12 _ _ ri2, T.cl_Run, T.n_Run_held, rfl, by show 2 ≤ sizeLine; decide, fun z hz => ?_⟩
        have s13 := s12.trans (same_upd hz (o := .tup [.int 0, .int 0]))
        have rh2' := s13 _ _ rh2
        rw [held2 false, held2 true] at rh2'
        refine ⟨.tuple [.int 0, .int 0], .tuple [.int 0, .int 0], .tup (SqT.of rh2') (.cons (.int 0) (.cons (.int 0) .nil)), .tup (SqT.of upd_same) (.cons (.int 0) (.cons (.int 0) .nil)), rfl, rfl, false, rfl, iteN (by decide) ?_⟩
        refine ⟨_, rfl, r1, C.Run, dx1, _, _, rfl, s13 _ _ ri1, T.cl_Run, T.n_Run_held, rfl, hd1, _, _, _, rfl, rfl, SqT.of (s13 _ _ rh1), at0 _ _, _, rfl, _, _, rfl, rfl, .inl ⟨by decide, by decide⟩, _, rfl, d, _, _, _, rfl, rfl, SqT.of (s13 _ _ told11.d), rfl, _, _, rfl, rfl, _, _, rfl, rfl, false, ?_, iteN (by decide) ?_⟩
        · have h1 := held1 false
          have h2 : (L.st (!false)).delay = (L.st true).delay := rfl
          rw [h2] at h1
          exact congrArg V.bl (decide_eq_false (by omega))
        refine ⟨_, rfl, r1, C.Run, dx1, _, _, rfl, s13 _ _ ri1, T.cl_Run, T.n_Run_held, rfl, hd1, _, _, .int (S.f.s true).long, rfl, rfl, SqT.of (s13 _ _ rh1), rfl, _, rfl, _, _, rfl, rfl, .inl ⟨by decide, by decide⟩, _, rfl, c, _, _, _, rfl, rfl, SqT.of (s13 _ _ told11.c), rfl, _, _, rfl, rfl, _, _, rfl, rfl, false, ?_, iteN (by decide) ?_⟩
        · have h1 := held1 true
          have h2 : (L.st (!true)).delay = (L.st false).delay := rfl
          rw [h2] at h1
          exact congrArg V.bl (decide_eq_false (by omega))
        exact ⟨rfl, s13⟩
      rintro σ' H14 ⟨rfl, s14⟩
      have hm14 := hm11.same s14
      have tT14 := Tabs.same tT11 s14
      have sx14 := sx11.trans (.of s14)
      have htp14 := s14 _ _ htp11
      have htk14 := s14 _ _ htk11
      have pa14 := pa11.same s14
      have pb14 := pb11.same s14
      have run14 := (SX.of s14).run hm11 run11
      -- other
      refine ⟨_, rfl, by show 3 ≤ sizeLine; decide, fun l hl => ?_⟩
      have sl := same_upd hl (o := .lst [.int 1, .int 4, .int 7])
      refine ⟨m, l, _, rfl, hm14.same sl, upd_same, hm14.ne hl, by decide, by decide, fun H15 v s15 hm15 hv => ?_⟩
      obtain ⟨big, rfl, b0, b1⟩ := int_of (ns := [1, 4, 7]) (lo := 1) (hi := 7) hv (by simp)
      refine ⟨_, rfl, m, 9, rfl, hm15, by decide, by decide, fun H16 g2 s16 hm16 g20 g21 => ⟨_, _, rfl, rfl, ?_⟩⟩
      refine ⟨_, rfl, m, rfl, hm16, fun H17 c2 sc okc s17 hm17 hc2 => ?_⟩
      refine ⟨_, rfl, m, rfl, hm17, fun H18 d2 sd okd s18 hm18 hd2 => ?_⟩
      refine ⟨by show 4 ≤ sizeLine; decide, fun t2 ht2 => ?_⟩
      have st := same_upd ht2 (o := .tup [.int big, .int (1 + g2), .ref c2, .ref d2])
      have sB := ((s15.trans s16).trans s17).trans s18
      have tT18 := Tabs.same (s18.tabs hm17 (s17.tabs hm16 (s16.tabs hm15 (s15.tabs (hm14.same sl) (Tabs.same tT14 sl))))) st
      have x19 : SX m H14 _ := ((SX.of sl).trans (.ofB sB)).trans (.of st)
      have hm19 := hm18.same st
      have told19 : ToldAt (L2.upd H18 t2 (.tup [.int big, .int (1 + g2), .ref c2, .ref d2])) t2 c2 d2 ⟨big, 1 + g2, fun b => if b then sd else sc⟩ := ⟨upd_same, st _ _ (s18.tup hm17 hc2), st _ _ hd2⟩
      have okM : LinOk ⟨big, 1 + g2, fun b => if b then sd else sc⟩ := ⟨b0, (show big ≤ 40 by omega), (show 1 ≤ 1 + g2 by omega), (show 1 + g2 ≤ 200 by omega), fun b => by cases b; exact okc; exact okd⟩
      generalize (⟨big, 1 + g2, fun b => if b then sd else sc⟩ : Ln) = LM at told19 okM
      generalize L2.upd H18 t2 (.tup [.int big, .int (1 + g2), .ref c2, .ref d2]) = H19 at tT18 x19 hm19 told19
      have htp19 := x19.tup hm14 htp14
      have htk19 := x19.tup hm14 htk14
      have pa19 := x19.prog hm14 pa14
      have pb19 := x19.prog hm14 pb14
      have run19 := x19.run hm14 run14
      have sx19 := sx14.trans x19
      -- mate
      refine ⟨_, rfl, t2, c2, d2, LM, rfl, told19, okM, fun H20 lnM nearM farM s20 hlnM => ?_⟩
      have htp20 := s20 _ _ htp19
      refine ⟨_, rfl, tp, _, _, _, rfl, rfl, SqT.of htp20, at0 _ _, _, rfl, tp, _, _, .ref b, rfl, rfl, SqT.of htp20, rfl, _, rfl, _, rfl, lnM, nearM, farM, a, b, tk, LM, 1 + g, va, vb, la, lb, ts, rfl,
        ⟨hlnM, okM, pa19.same s20, pb19.same s20, oka, okb, l1, l2, by omega, by omega, s20 _ _ htk19, fit⟩, Tabs.same tT18 s20, fun H21 r3 S3 e21 tT21 dn3 run3 => ?_⟩
      have x21 : SX m H19 H21 := (SX.of s20).trans (.ofN e21)
      have hm21 := (hm19.same s20).extN e21
      have run21 := x21.run hm19 run19
      have sx21 := sx19.trans x21
      obtain ⟨dy1, f1, y1, w1, hd1', u1', al1', q1', qi1, qe1, qh1, qu1⟩ := id run21
      obtain ⟨dy3, f3, y3, w3, hd3, u3, al3, q3, qi3, qe3, qh3, qu3⟩ := id run3
      have endM : ∀ b, (S3.c b).ended = none ↔ (S.c b).ended = none := ended_iff okM.ok okL.ok okP dn3 dn1
      have unM : ∀ b, unread S3 b = unread S b := unread_eq okM.ok okL.ok okP dn3 dn1
      have decM : ∀ b, decide ((S3.c b).ended = none) = decide ((S.c b).ended = none) := fun b => decide_eq_decide.mpr (endM b)
      have stk : (decide ((S3.c false).ended = none) || decide ((S3.c true).ended = none)) = (decide ((S.c false).ended = none) || decide ((S.c true).ended = none)) := by rw [decM, decM]
      rw [stk] at qi3
      rw [unM, unM] at qu3
      generalize (decide ((S.c false).ended = none) || decide ((S.c true).ended = none)) = sb at qi1 qi3
      generalize unread S false = n0 at qu1 qu3
      generalize unread S true = n1 at qu1 qu3
      have eqT : PyData.eqv (.tuple [.int n0, .int n1]) (.tuple [.int n0, .int n1]) = true := by simp [PyData.eqv, PyData.eqvAll]
      refine ⟨fun σ' H' => σ' = [some (.ref m), some (.int (0 + i)), some (.ref t), some (.ref tp), some (.int (1 + g)), some (.int L.size), some (.int L.way), some (.ref c), some (.ref d), some (.ref tk), some (.ref r1), some (.ref lnP), some (.ref r2), w13, w14, some (.ref t2), some (.ref r3), v17] ∧ H' = H21, ?_, ?_⟩
      · refine ⟨_, rfl, r3, C.Run, dy3, _, _, rfl, qi3, T.cl_Run, T.n_Run_stuck, rfl, _, rfl, r1, C.Run, dy1, _, _, rfl, qi1, T.cl_Run, T.n_Run_stuck, rfl, rfl, false, by simp, iteN (by decide) ?_⟩
        refine ⟨_, rfl, r3, C.Run, dy3, _, _, rfl, qi3, T.cl_Run, T.n_Run_unread, rfl, _, rfl, r1, C.Run, dy1, _, _, rfl, qi1, T.cl_Run, T.n_Run_unread, rfl, .tuple [.int n0, .int n1], .tuple [.int n0, .int n1], .tup (SqT.of qu3) (.cons (.int n0) (.cons (.int n1) .nil)), .tup (SqT.of qu1) (.cons (.int n0) (.cons (.int n1) .nil)), rfl, rfl, false, by rw [eqT]; rfl, iteN (by decide) ⟨rfl, rfl⟩⟩
      rintro σ' H22 ⟨rfl, rfl⟩
      -- the ends' shapes
      have eqE : ∀ b, decide (optV (S3.c b).ended = .non) = decide (optV (S.c b).ended = .non) := fun b => by rw [optV_nonD, optV_nonD]; exact decM b
      refine ⟨_, rfl, r3, C.Run, dy3, _, _, rfl, qi3, T.cl_Run, T.n_Run_ends, rfl, f3, rfl, ⟨_, SqT.of qe3⟩, fun D3 hD3 => ?_⟩
      refine lc_tup (K := K) (a := f3) (xs := [optV (S3.c false).ended, optV (S3.c true).ended]) (fun j H' => Same H22 H' ∧ H' D3 = some (.lst ([V.bl (decide (optV (S3.c false).ended = .non)), V.bl (decide (optV (S3.c true).ended = .non))].take j))) ⟨same_upd hD3, upd_same⟩ (fun j H' _ h => SqT.of (h.1 _ _ qe3)) (fun j x H' hj h => ?_) (fun H23 h23 => ?_)
      · obtain ⟨eH, hDH⟩ := h
        rcases pairV hj with ⟨rfl, rfl⟩ | ⟨rfl, rfl⟩
        · exact ⟨rfl, yes_ite ⟨_, rfl, rfl, _, hDH, by show 0 < sizeLine; decide, Same.upd0 eH hD3, upd_same⟩⟩
        · exact ⟨rfl, yes_ite ⟨_, rfl, rfl, _, hDH, by show 1 < sizeLine; decide, Same.upd0 eH hD3, upd_same⟩⟩
      obtain ⟨s23, hD23⟩ := h23
      have qi1' := s23 _ _ qi1
      have qe1' := s23 _ _ qe1
      refine ⟨_, rfl, r1, C.Run, dy1, _, _, rfl, qi1', T.cl_Run, T.n_Run_ends, rfl, f1, rfl, ⟨_, SqT.of qe1'⟩, fun D1 hD1 => ?_⟩
      refine lc_tup (K := K) (a := f1) (xs := [optV (S.c false).ended, optV (S.c true).ended]) (fun j H' => Same H23 H' ∧ H' D1 = some (.lst ([V.bl (decide (optV (S.c false).ended = .non)), V.bl (decide (optV (S.c true).ended = .non))].take j))) ⟨same_upd hD1, upd_same⟩ (fun j H' _ h => SqT.of (h.1 _ _ qe1')) (fun j x H' hj h => ?_) (fun H24 h24 => ?_)
      · obtain ⟨eH, hDH⟩ := h
        rcases pairV hj with ⟨rfl, rfl⟩ | ⟨rfl, rfl⟩
        · exact ⟨rfl, yes_ite ⟨_, rfl, rfl, _, hDH, by show 0 < sizeLine; decide, Same.upd0 eH hD1, upd_same⟩⟩
        · exact ⟨rfl, yes_ite ⟨_, rfl, rfl, _, hDH, by show 1 < sizeLine; decide, Same.upd0 eH hD1, upd_same⟩⟩
      obtain ⟨s24, hD24⟩ := h24
      have hD3' := s24 _ _ hD23
      rw [eqE, eqE] at hD3'
      generalize decide (optV (S.c false).ended = V.non) = k0 at hD3' hD24
      generalize decide (optV (S.c true).ended = V.non) = k1 at hD3' hD24
      have eqL : PyData.eqv (.list [.bool k0, .bool k1]) (.list [.bool k0, .bool k1]) = true := by simp [PyData.eqv, PyData.eqvAll]
      refine ⟨.list [.bool k0, .bool k1], .list [.bool k0, .bool k1], .lst (SqL.of hD3') (.cons (.bl k0) (.cons (.bl k1) .nil)), .lst (SqL.of hD24) (.cons (.bl k0) (.cons (.bl k1) .nil)), rfl, rfl, false, by rw [eqL]; rfl, iteN (by decide) ?_⟩
      have s224 := s23.trans s24
      exact ⟨⟨_, _, _, _, _, _, _, _, _, _, _, _, _, _, _, _, _, rfl⟩, sx21.trans (.of s224), hm21.same s224, Tabs.same tT21 s224⟩
    · rintro σ H' ⟨⟨v1, v2, v3, v4, v5, v6, v7, v8, v9, v10, v11, v12, v13, v14, v15, v16, v17, rfl⟩, sx, hm, tT⟩
      exact k _ sx tT
end
end Sh

namespace Sh
open PySem L2 PySem.Spec PyProof.Rows LamX
def splaw (K : PySem.W.Frag) (C : AD) : Sp := fun vs H Q _ => ∃ (a : Addr) (ns : List Int), vs = [.ref a] ∧ SqL K H a (ns.map V.int) ∧ ns.length ≤ 63 ∧ Tabs (TT C) H ∧ ∀ H', Q (.bl true) H'
theorem sqL_SX {K : PySem.W.Frag} {m a : Addr} {H H1 H2 : Hp} {xs : List V} (hn : H m = none) (s1 : Same H H1) (s2 : SX m H1 H2) (h : SqL K H a xs) : SqL K H2 a xs := by
  rcases h with (h | ⟨o, h⟩) | h
  · exact .inl (.inl (s2 _ _ (ne_of_none h hn) (s1 _ _ h) fun ps z => nomatch z))
  · exact .inl (.inr ⟨o, s2 _ _ (ne_of_none h hn) (s1 _ _ h) fun ps z => nomatch z⟩)
  · exact .inr h
theorem sqL_new {K : PySem.W.Frag} {D a : Addr} {H : Hp} {xs : List V} {l : List V} {o : HO} (hD : H D = some (.lst l)) (h : SqL K H a xs) (n : a ≠ D) : SqL K (L2.upd H D o) a xs := by
  rcases h with (h | ⟨ob, h⟩) | h
  · exact .inl (.inl (by rw [upd_ne n]; exact h))
  · exact .inl (.inr ⟨ob, by rw [upd_ne n]; exact h⟩)
  · exact .inr h
theorem tabs_lst {T : List (Addr × Str)} {H : Hp} {D : Addr} {l : List V} {o : HO} (t : Tabs T H) (h : H D = some (.lst l)) : Tabs T (L2.upd H D o) := fun p hp => by
  obtain ⟨ps, h1, h2, h3⟩ := t p hp
  have k : ∀ b u, H b = some u → (∀ l, u ≠ .lst l) → L2.upd H D o b = some u := fun b u e n => by
    rw [upd_ne]
    · exact e
    · intro z
      subst z
      rw [h] at e
      exact n _ (Option.some.inj e).symm
  refine ⟨ps, k _ _ h1 (fun _ z => (nomatch z)), h2, fun pos cv hc => ?_⟩
  obtain ⟨c', e1, e2⟩ := h3 pos cv hc
  refine ⟨c', e1, k _ _ e2 fun _ z => ?_⟩
  unfold CodeO at z
  cases z
theorem all_rep : ∀ n : Nat, (List.replicate n true).all id = true
  | 0 => rfl
  | n + 1 => by rw [List.replicate_succ, List.all_cons, all_rep n]; rfl
section
variable {P : Program} {w : World} {K : PySem.W.Frag} {mg : Str → Option Value} {base : Heap} {C : AD}
abbrev slaw : Stmt := topS 58
theorem sclaw : FnScope ["_law_script", "_law_k"] ["_law_script"] (defScope slaw) := ⟨rfl, rfl, rfl, by decide +kernel, rfl, by decide +kernel, by decide +kernel⟩
theorem oklaw {f : Addr} {fd : FuncData} (F : Fun K "law" "law" slaw f fd) (T : Txt K mg C)
    (M_law_right : GOk P w K mg base "_law_right" 10 ["_law_mill_here"] (sp_law_right K C))
    (M_law_mill : GOk P w K mg base "_law_mill" 1 ["_law_script", "_law_k"] (sp_law_mill K C)) :
    FnOk P w K mg base CX0 11 f fd ["_law_script"] (splaw K C) := by
  obtain ⟨_, _, G_law_right, b_law_right, g_law_right, k_law_right⟩ := M_law_right.ex
  obtain ⟨_, _, G_law_mill, b_law_mill, g_law_mill, k_law_mill⟩ := M_law_mill.ex
  refine F.ok sclaw (fun vs H Q E h => ?_) (fun cdv A outer s H vs Q E hr h => ?_)
  · obtain ⟨a, ns, rfl, _⟩ := h
    rfl
  · obtain ⟨a, ns, rfl, ha, hl, tT, k⟩ := h
    refine ⟨_, (pss_one (ps_ret (pe_callB (cr_all rfl) (by rfl) T.z_all (by decide +kernel) (pa_cons (pe_lc (own := [("_law_k", 1)]) rfl sclaw.nd (pi_range1 (by rfl) T.z_range (pa_cons (pe_callB (call_max2 rfl) (by rfl) T.z_max (by decide +kernel) (pa_cons pe_int (pa_cons (pe_callB (call_min2 rfl) (by rfl) T.z_min (by decide +kernel) (pa_cons (pe_callB call_len_seq (by rfl) T.z_len (by decide +kernel) (pa_cons (pv 0) pa_nil)) (pa_cons pe_int pa_nil))) pa_nil))) pa_nil)) (blkOk_by (N := ["_law_script", "_law_k"]) (sc := defScope slaw) (by decide +kernel)) (fun _ _ _ _ _ => by exact (pg_name (i := 1) sclaw.nd rfl (Or.inl rfl))) (fun _ _ _ _ _ => by exact pts_nil) (fun _ _ _ _ _ => by exact (pe_call G_law_right (hr.mono (by decide)) (by rfl) g_law_right k_law_right b_law_right .nil pass0 (pa_cons (pe_call G_law_mill (hr.mono (by decide)) (by rfl) g_law_mill k_law_mill b_law_mill .nil pass0 (pa_cons (pv 0) (pa_cons (pv 1) pa_nil))) pa_nil)))) pa_nil)))), ?_⟩
    have lm : (ns.map V.int).length = ns.length := List.length_map ..
    refine ⟨_, rfl, a, _, rfl, .inl ha, _, _, rfl, _, _, rfl, _, rfl, ?_, ?_, fun D hD => ?_⟩
    · split <;> (try split) <;> omega
    · split <;> (try split) <;> omega
    generalize hn : (if (if (5 : Int) < ((ns.map V.int).length : Int) then (5 : Int) else ((ns.map V.int).length : Int)) > 2 then (if (5 : Int) < ((ns.map V.int).length : Int) then (5 : Int) else ((ns.map V.int).length : Int)) else 2).toNat = n
    have n100 : n ≤ 100 := by
      rw [← hn]
      split <;> (try split) <;> omega
    refine lc_range (fun j H' => ((∀ H9, SqL K H9 a (ns.map V.int)) ∨ (SqL K H' a (ns.map V.int) ∧ a ≠ D)) ∧ Tabs (TT C) H' ∧ H' D = some (.lst ((List.replicate j true).map V.bl))) ⟨?_, ?_, upd_same⟩ (fun j H' hj h => ?_) (fun H' h => ?_)
    · rcases id ha with (h | ⟨o, h⟩) | h
      · exact .inr ⟨Same.seq (same_upd hD) ha, ne_of_none h hD⟩
      · exact .inr ⟨Same.seq (same_upd hD) ha, ne_of_none h hD⟩
      · exact .inl fun _ => .inr h
    · exact Tabs.same tT (same_upd hD)
    · obtain ⟨hsd, t1, hD1⟩ := h
      have hs : SqL K H' a (ns.map V.int) := hsd.elim (fun z => z H') (fun z => z.1)
      refine ⟨rfl, yes_ite ?_⟩
      refine ⟨_, rfl, _, rfl, a, 0 + j, ns, rfl, hs, by omega, fun H1 m s1 hm hmn => ?_⟩
      refine ⟨m, rfl, hm, Tabs.same t1 s1, fun H2 sx t2 => ?_⟩
      have hD2 : H2 D = some (.lst ((List.replicate j true).map V.bl)) := sx _ _ (ne_of_none hD1 hmn) (s1 _ _ hD1) fun ps z => nomatch z
      refine ⟨_, hD2, by rw [List.length_map, List.length_replicate]; exact big_line (by omega), hsd.imp (fun z => z) (fun z => ⟨sqL_new hD2 (sqL_SX hmn s1 sx hs) z.2, z.2⟩), tabs_lst t2 hD2, ?_⟩
      rw [upd_same, List.replicate_succ', List.map_append]
      rfl
    · obtain ⟨hs, t1, hD1⟩ := h
      refine ⟨D, _, rfl, SqL.of hD1, ?_⟩
      rw [all_rep]
      exact k _
end
end Sh

namespace Sh
open PySem L2 PySem.Spec PyProof.Rows LamX
theorem kit_self {K : PySem.W.Frag} {C : Addr} : PySem.W.kitOne K (.ref C) (.ref C) = some true := by
  unfold PySem.W.kitOne
  simp
theorem kb_run {K : PySem.W.Frag} {f : Addr} {fd : FuncData} (F : Fun K "run" "run" srun f fd) : KBinds K fd ["line", "one", "other", "x", "pauses"] ["x", "pauses"] gK gK := by
  obtain ⟨oc, od, kV, doc, pm, an, cdv, ct, osl, rfl, lk, hcd⟩ := F.ex
  refine ⟨fun s us ws _ hl => ?_, fun {vs us zs ws} h1 h2 => ?_⟩
  · unfold gK at hl ⊢
    split at hl
    · exact .of_eq rfl
    · cases hl
  · unfold gK
    split
    · cases h1 with
      | cons a h1 => cases h1 with
        | cons b h1 => cases h1 with
          | cons c h1 =>
            cases h1
            cases h2 with
            | cons d h2 => cases h2 with
              | cons e h2 =>
                cases h2
                exact .cons a (.cons b (.cons c (.cons d (.cons e .nil))))
    · rename_i hno
      split
      · cases h1 with
        | cons a h1 => cases h1 with
          | cons b h1 => cases h1 with
            | cons c h1 =>
              cases h1
              cases h2 with
              | cons d h2 => cases h2 with
                | cons e h2 =>
                  cases h2
                  exact absurd rfl (hno _ _ _ _ _ rfl)
      · exact .nil
theorem all_mk {l : PySem.W.OpenLaw} {w : World} {K : PySem.W.Frag} {h : Heap} {mg : Str → Option Value} {fa : Addr}
    {cFlow cCourse cSetting cLine cRun aR tab cR : Addr} {oR : Obj} {vR : Array Value} {nR : Nat}
    {fevents : Addr} {odevents anevents : Option Addr} {slevents : Array (Option Value)} {ocevents kVevents dcevents pmevents ctevents : Value} {cdevents : Value}
    {fdo_tick : Addr} {oddo_tick ando_tick : Option Addr} {sldo_tick : Array (Option Value)} {ocdo_tick kVdo_tick dcdo_tick pmdo_tick ctdo_tick : Value} {cddo_tick : Value}
    {fis_integer : Addr} {odis_integer anis_integer : Option Addr} {slis_integer : Array (Option Value)} {ocis_integer kVis_integer dcis_integer pmis_integer ctis_integer : Value} {cdis_integer : Value}
    {fis_between : Addr} {odis_between anis_between : Option Addr} {slis_between : Array (Option Value)} {ocis_between kVis_between dcis_between pmis_between ctis_between : Value} {cdis_between : Value}
    {fcheck_number : Addr} {odcheck_number ancheck_number : Option Addr} {slcheck_number : Array (Option Value)} {occheck_number kVcheck_number dccheck_number pmcheck_number ctcheck_number : Value} {cdcheck_number : Value}
    {fcheck_setting : Addr} {odcheck_setting ancheck_setting : Option Addr} {slcheck_setting : Array (Option Value)} {occheck_setting kVcheck_setting dccheck_setting pmcheck_setting ctcheck_setting : Value} {cdcheck_setting : Value}
    {fcheck_line : Addr} {odcheck_line ancheck_line : Option Addr} {slcheck_line : Array (Option Value)} {occheck_line kVcheck_line dccheck_line pmcheck_line ctcheck_line : Value} {cdcheck_line : Value}
    {fis_amount : Addr} {odis_amount anis_amount : Option Addr} {slis_amount : Array (Option Value)} {ocis_amount kVis_amount dcis_amount pmis_amount ctis_amount : Value} {cdis_amount : Value}
    {fis_step : Addr} {odis_step anis_step : Option Addr} {slis_step : Array (Option Value)} {ocis_step kVis_step dcis_step pmis_step ctis_step : Value} {cdis_step : Value}
    {fcheck_program : Addr} {odcheck_program ancheck_program : Option Addr} {slcheck_program : Array (Option Value)} {occheck_program kVcheck_program dccheck_program pmcheck_program ctcheck_program : Value} {cdcheck_program : Value}
    {fis_size : Addr} {odis_size anis_size : Option Addr} {slis_size : Array (Option Value)} {ocis_size kVis_size dcis_size pmis_size ctis_size : Value} {cdis_size : Value}
    {fcheck_size : Addr} {odcheck_size ancheck_size : Option Addr} {slcheck_size : Array (Option Value)} {occheck_size kVcheck_size dccheck_size pmcheck_size ctcheck_size : Value} {cdcheck_size : Value}
    {fpause_steps : Addr} {odpause_steps anpause_steps : Option Addr} {slpause_steps : Array (Option Value)} {ocpause_steps kVpause_steps dcpause_steps pmpause_steps ctpause_steps : Value} {cdpause_steps : Value}
    {fcheck_pauses : Addr} {odcheck_pauses ancheck_pauses : Option Addr} {slcheck_pauses : Array (Option Value)} {occheck_pauses kVcheck_pauses dccheck_pauses pmcheck_pauses ctcheck_pauses : Value} {cdcheck_pauses : Value}
    {fplain_steps : Addr} {odplain_steps anplain_steps : Option Addr} {slplain_steps : Array (Option Value)} {ocplain_steps kVplain_steps dcplain_steps pmplain_steps ctplain_steps : Value} {cdplain_steps : Value}
    {frun_of : Addr} {odrun_of anrun_of : Option Addr} {slrun_of : Array (Option Value)} {ocrun_of kVrun_of dcrun_of pmrun_of ctrun_of : Value} {cdrun_of : Value}
    {fcheck_run : Addr} {odcheck_run ancheck_run : Option Addr} {slcheck_run : Array (Option Value)} {occheck_run kVcheck_run dccheck_run pmcheck_run ctcheck_run : Value} {cdcheck_run : Value}
    {frun : Addr} {odrun anrun : Option Addr} {slrun : Array (Option Value)} {ocrun kVrun dcrun pmrun ctrun : Value} {cdrun : Value}
    {f_law_mill : Addr} {od_law_mill an_law_mill : Option Addr} {sl_law_mill : Array (Option Value)} {oc_law_mill kV_law_mill dc_law_mill pm_law_mill ct_law_mill : Value} {cd_law_mill : Value}
    {f_law_grain : Addr} {od_law_grain an_law_grain : Option Addr} {sl_law_grain : Array (Option Value)} {oc_law_grain kV_law_grain dc_law_grain pm_law_grain ct_law_grain : Value} {cd_law_grain : Value}
    {f_law_pick : Addr} {od_law_pick an_law_pick : Option Addr} {sl_law_pick : Array (Option Value)} {oc_law_pick kV_law_pick dc_law_pick pm_law_pick ct_law_pick : Value} {cd_law_pick : Value}
    {f_law_ways : Addr} {od_law_ways an_law_ways : Option Addr} {sl_law_ways : Array (Option Value)} {oc_law_ways kV_law_ways dc_law_ways pm_law_ways ct_law_ways : Value} {cd_law_ways : Value}
    {f_law_told : Addr} {od_law_told an_law_told : Option Addr} {sl_law_told : Array (Option Value)} {oc_law_told kV_law_told dc_law_told pm_law_told ct_law_told : Value} {cd_law_told : Value}
    {f_law_made : Addr} {od_law_made an_law_made : Option Addr} {sl_law_made : Array (Option Value)} {oc_law_made kV_law_made dc_law_made pm_law_made ct_law_made : Value} {cd_law_made : Value}
    {f_law_amount : Addr} {od_law_amount an_law_amount : Option Addr} {sl_law_amount : Array (Option Value)} {oc_law_amount kV_law_amount dc_law_amount pm_law_amount ct_law_amount : Value} {cd_law_amount : Value}
    {f_law_plans : Addr} {od_law_plans an_law_plans : Option Addr} {sl_law_plans : Array (Option Value)} {oc_law_plans kV_law_plans dc_law_plans pm_law_plans ct_law_plans : Value} {cd_law_plans : Value}
    {f_law_choice : Addr} {od_law_choice an_law_choice : Option Addr} {sl_law_choice : Array (Option Value)} {oc_law_choice kV_law_choice dc_law_choice pm_law_choice ct_law_choice : Value} {cd_law_choice : Value}
    {f_law_right : Addr} {od_law_right an_law_right : Option Addr} {sl_law_right : Array (Option Value)} {oc_law_right kV_law_right dc_law_right pm_law_right ct_law_right : Value} {cd_law_right : Value}
    {flaw : Addr} {odlaw anlaw : Option Addr} {sllaw : Array (Option Value)} {oclaw kVlaw dclaw pmlaw ctlaw : Value} {cdlaw : Value}
    {fFlow_kept : Addr} {odFlow_kept anFlow_kept : Option Addr} {slFlow_kept : Array (Option Value)} {ocFlow_kept kVFlow_kept dcFlow_kept pmFlow_kept ctFlow_kept : Value} {cdFlow_kept : Value}
    {fFlow_fresh : Addr} {odFlow_fresh anFlow_fresh : Option Addr} {slFlow_fresh : Array (Option Value)} {ocFlow_fresh kVFlow_fresh dcFlow_fresh pmFlow_fresh ctFlow_fresh : Value} {cdFlow_fresh : Value}
    {fFlow_take_out : Addr} {odFlow_take_out anFlow_take_out : Option Addr} {slFlow_take_out : Array (Option Value)} {ocFlow_take_out kVFlow_take_out dcFlow_take_out pmFlow_take_out ctFlow_take_out : Value} {cdFlow_take_out : Value}
    {fFlow_send : Addr} {odFlow_send anFlow_send : Option Addr} {slFlow_send : Array (Option Value)} {ocFlow_send kVFlow_send dcFlow_send pmFlow_send ctFlow_send : Value} {cdFlow_send : Value}
    {fFlow_lets : Addr} {odFlow_lets anFlow_lets : Option Addr} {slFlow_lets : Array (Option Value)} {ocFlow_lets kVFlow_lets dcFlow_lets pmFlow_lets ctFlow_lets : Value} {cdFlow_lets : Value}
    {fFlow_let_go : Addr} {odFlow_let_go anFlow_let_go : Option Addr} {slFlow_let_go : Array (Option Value)} {ocFlow_let_go kVFlow_let_go dcFlow_let_go pmFlow_let_go ctFlow_let_go : Value} {cdFlow_let_go : Value}
    {fFlow_put : Addr} {odFlow_put anFlow_put : Option Addr} {slFlow_put : Array (Option Value)} {ocFlow_put kVFlow_put dcFlow_put pmFlow_put ctFlow_put : Value} {cdFlow_put : Value}
    {fFlow_land : Addr} {odFlow_land anFlow_land : Option Addr} {slFlow_land : Array (Option Value)} {ocFlow_land kVFlow_land dcFlow_land pmFlow_land ctFlow_land : Value} {cdFlow_land : Value}
    {fFlow_begin : Addr} {odFlow_begin anFlow_begin : Option Addr} {slFlow_begin : Array (Option Value)} {ocFlow_begin kVFlow_begin dcFlow_begin pmFlow_begin ctFlow_begin : Value} {cdFlow_begin : Value}
    {fFlow_is_due : Addr} {odFlow_is_due anFlow_is_due : Option Addr} {slFlow_is_due : Array (Option Value)} {ocFlow_is_due kVFlow_is_due dcFlow_is_due pmFlow_is_due ctFlow_is_due : Value} {cdFlow_is_due : Value}
    {fFlow_leave : Addr} {odFlow_leave anFlow_leave : Option Addr} {slFlow_leave : Array (Option Value)} {ocFlow_leave kVFlow_leave dcFlow_leave pmFlow_leave ctFlow_leave : Value} {cdFlow_leave : Value}
    {fFlow_next_tick : Addr} {odFlow_next_tick anFlow_next_tick : Option Addr} {slFlow_next_tick : Array (Option Value)} {ocFlow_next_tick kVFlow_next_tick dcFlow_next_tick pmFlow_next_tick ctFlow_next_tick : Value} {cdFlow_next_tick : Value}
    {fCourse_pass_step : Addr} {odCourse_pass_step anCourse_pass_step : Option Addr} {slCourse_pass_step : Array (Option Value)} {ocCourse_pass_step kVCourse_pass_step dcCourse_pass_step pmCourse_pass_step ctCourse_pass_step : Value} {cdCourse_pass_step : Value}
    {fCourse_rests : Addr} {odCourse_rests anCourse_rests : Option Addr} {slCourse_rests : Array (Option Value)} {ocCourse_rests kVCourse_rests dcCourse_rests pmCourse_rests ctCourse_rests : Value} {cdCourse_rests : Value}
    {fCourse_do_step : Addr} {odCourse_do_step anCourse_do_step : Option Addr} {slCourse_do_step : Array (Option Value)} {ocCourse_do_step kVCourse_do_step dcCourse_do_step pmCourse_do_step ctCourse_do_step : Value} {cdCourse_do_step : Value}
    {fCourse_go_on : Addr} {odCourse_go_on anCourse_go_on : Option Addr} {slCourse_go_on : Array (Option Value)} {ocCourse_go_on kVCourse_go_on dcCourse_go_on pmCourse_go_on ctCourse_go_on : Value} {cdCourse_go_on : Value}
    {fFlow___init__ : Addr} {odFlow___init__ anFlow___init__ : Option Addr} {slFlow___init__ : Array (Option Value)} {ocFlow___init__ kVFlow___init__ dcFlow___init__ pmFlow___init__ ctFlow___init__ : Value} {cdFlow___init__ : Value}
    {fCourse___init__ : Addr} {odCourse___init__ anCourse___init__ : Option Addr} {slCourse___init__ : Array (Option Value)} {ocCourse___init__ kVCourse___init__ dcCourse___init__ pmCourse___init__ ctCourse___init__ : Value} {cdCourse___init__ : Value}
    {fSetting___init__ : Addr} {odSetting___init__ anSetting___init__ : Option Addr} {slSetting___init__ : Array (Option Value)} {ocSetting___init__ kVSetting___init__ dcSetting___init__ pmSetting___init__ ctSetting___init__ : Value} {cdSetting___init__ : Value}
    {fLine___init__ : Addr} {odLine___init__ anLine___init__ : Option Addr} {slLine___init__ : Array (Option Value)} {ocLine___init__ kVLine___init__ dcLine___init__ pmLine___init__ ctLine___init__ : Value} {cdLine___init__ : Value}
    {fRun___init__ : Addr} {odRun___init__ anRun___init__ : Option Addr} {slRun___init__ : Array (Option Value)} {ocRun___init__ kVRun___init__ dcRun___init__ pmRun___init__ ctRun___init__ : Value}
    {uMOST_SIZE : Value}
    {uMOST_WAY : Value}
    {uMOST_EVERY : Value}
    {uMOST_DELAY : Value}
    {uMOST_STEPS : Value}
    {uMOST_BYTES : Value}
    {uMOST_X : Value}
    {uLETTER : Value}
    (KX : K.In h) (G : h.Ns mainGlobals mg) (hfa : mg "law" = some (.ref fa)) (hT : h.get? tab = some { cls := .none, data := .fields #[] })
    (mFlow : PySem.W.nsIn K mainGlobals "Flow" = some (some (.ref cFlow)))
    (mCourse : PySem.W.nsIn K mainGlobals "Course" = some (some (.ref cCourse)))
    (mSetting : PySem.W.nsIn K mainGlobals "Setting" = some (some (.ref cSetting)))
    (mLine : PySem.W.nsIn K mainGlobals "Line" = some (some (.ref cLine)))
    (mRun : PySem.W.nsIn K mainGlobals "Run" = some (some (.ref cRun)))
    (aevents : PySem.W.nsIn K mainGlobals "events" = some (some (.ref fevents)))
    (levents : K.lookup fevents = some ⟨ocevents, odevents, .func (PySem.W.fnOf "events" "events" (defArgs sevents) (defBody sevents) (defScope sevents) .none kVevents dcevents pmevents anevents cdevents ctevents), slevents⟩)
    (cevents : PySem.W.codeIn K cdevents "events" = true)
    (kevents : PySem.W.keepIn K (.ref fevents) = true)
    (ado_tick : PySem.W.nsIn K mainGlobals "do_tick" = some (some (.ref fdo_tick)))
    (ldo_tick : K.lookup fdo_tick = some ⟨ocdo_tick, oddo_tick, .func (PySem.W.fnOf "do_tick" "do_tick" (defArgs sdo_tick) (defBody sdo_tick) (defScope sdo_tick) .none kVdo_tick dcdo_tick pmdo_tick ando_tick cddo_tick ctdo_tick), sldo_tick⟩)
    (cdo_tick : PySem.W.codeIn K cddo_tick "do_tick" = true)
    (kdo_tick : PySem.W.keepIn K (.ref fdo_tick) = true)
    (ais_integer : PySem.W.nsIn K mainGlobals "is_integer" = some (some (.ref fis_integer)))
    (lis_integer : K.lookup fis_integer = some ⟨ocis_integer, odis_integer, .func (PySem.W.fnOf "is_integer" "is_integer" (defArgs sis_integer) (defBody sis_integer) (defScope sis_integer) .none kVis_integer dcis_integer pmis_integer anis_integer cdis_integer ctis_integer), slis_integer⟩)
    (cis_integer : PySem.W.codeIn K cdis_integer "is_integer" = true)
    (kis_integer : PySem.W.keepIn K (.ref fis_integer) = true)
    (ais_between : PySem.W.nsIn K mainGlobals "is_between" = some (some (.ref fis_between)))
    (lis_between : K.lookup fis_between = some ⟨ocis_between, odis_between, .func (PySem.W.fnOf "is_between" "is_between" (defArgs sis_between) (defBody sis_between) (defScope sis_between) .none kVis_between dcis_between pmis_between anis_between cdis_between ctis_between), slis_between⟩)
    (cis_between : PySem.W.codeIn K cdis_between "is_between" = true)
    (kis_between : PySem.W.keepIn K (.ref fis_between) = true)
    (acheck_number : PySem.W.nsIn K mainGlobals "check_number" = some (some (.ref fcheck_number)))
    (lcheck_number : K.lookup fcheck_number = some ⟨occheck_number, odcheck_number, .func (PySem.W.fnOf "check_number" "check_number" (defArgs scheck_number) (defBody scheck_number) (defScope scheck_number) .none kVcheck_number dccheck_number pmcheck_number ancheck_number cdcheck_number ctcheck_number), slcheck_number⟩)
    (ccheck_number : PySem.W.codeIn K cdcheck_number "check_number" = true)
    (kcheck_number : PySem.W.keepIn K (.ref fcheck_number) = true)
    (acheck_setting : PySem.W.nsIn K mainGlobals "check_setting" = some (some (.ref fcheck_setting)))
    (lcheck_setting : K.lookup fcheck_setting = some ⟨occheck_setting, odcheck_setting, .func (PySem.W.fnOf "check_setting" "check_setting" (defArgs scheck_setting) (defBody scheck_setting) (defScope scheck_setting) .none kVcheck_setting dccheck_setting pmcheck_setting ancheck_setting cdcheck_setting ctcheck_setting), slcheck_setting⟩)
    (ccheck_setting : PySem.W.codeIn K cdcheck_setting "check_setting" = true)
    (kcheck_setting : PySem.W.keepIn K (.ref fcheck_setting) = true)
    (acheck_line : PySem.W.nsIn K mainGlobals "check_line" = some (some (.ref fcheck_line)))
    (lcheck_line : K.lookup fcheck_line = some ⟨occheck_line, odcheck_line, .func (PySem.W.fnOf "check_line" "check_line" (defArgs scheck_line) (defBody scheck_line) (defScope scheck_line) .none kVcheck_line dccheck_line pmcheck_line ancheck_line cdcheck_line ctcheck_line), slcheck_line⟩)
    (ccheck_line : PySem.W.codeIn K cdcheck_line "check_line" = true)
    (kcheck_line : PySem.W.keepIn K (.ref fcheck_line) = true)
    (ais_amount : PySem.W.nsIn K mainGlobals "is_amount" = some (some (.ref fis_amount)))
    (lis_amount : K.lookup fis_amount = some ⟨ocis_amount, odis_amount, .func (PySem.W.fnOf "is_amount" "is_amount" (defArgs sis_amount) (defBody sis_amount) (defScope sis_amount) .none kVis_amount dcis_amount pmis_amount anis_amount cdis_amount ctis_amount), slis_amount⟩)
    (cis_amount : PySem.W.codeIn K cdis_amount "is_amount" = true)
    (kis_amount : PySem.W.keepIn K (.ref fis_amount) = true)
    (ais_step : PySem.W.nsIn K mainGlobals "is_step" = some (some (.ref fis_step)))
    (lis_step : K.lookup fis_step = some ⟨ocis_step, odis_step, .func (PySem.W.fnOf "is_step" "is_step" (defArgs sis_step) (defBody sis_step) (defScope sis_step) .none kVis_step dcis_step pmis_step anis_step cdis_step ctis_step), slis_step⟩)
    (cis_step : PySem.W.codeIn K cdis_step "is_step" = true)
    (kis_step : PySem.W.keepIn K (.ref fis_step) = true)
    (acheck_program : PySem.W.nsIn K mainGlobals "check_program" = some (some (.ref fcheck_program)))
    (lcheck_program : K.lookup fcheck_program = some ⟨occheck_program, odcheck_program, .func (PySem.W.fnOf "check_program" "check_program" (defArgs scheck_program) (defBody scheck_program) (defScope scheck_program) .none kVcheck_program dccheck_program pmcheck_program ancheck_program cdcheck_program ctcheck_program), slcheck_program⟩)
    (ccheck_program : PySem.W.codeIn K cdcheck_program "check_program" = true)
    (kcheck_program : PySem.W.keepIn K (.ref fcheck_program) = true)
    (ais_size : PySem.W.nsIn K mainGlobals "is_size" = some (some (.ref fis_size)))
    (lis_size : K.lookup fis_size = some ⟨ocis_size, odis_size, .func (PySem.W.fnOf "is_size" "is_size" (defArgs sis_size) (defBody sis_size) (defScope sis_size) .none kVis_size dcis_size pmis_size anis_size cdis_size ctis_size), slis_size⟩)
    (cis_size : PySem.W.codeIn K cdis_size "is_size" = true)
    (kis_size : PySem.W.keepIn K (.ref fis_size) = true)
    (acheck_size : PySem.W.nsIn K mainGlobals "check_size" = some (some (.ref fcheck_size)))
    (lcheck_size : K.lookup fcheck_size = some ⟨occheck_size, odcheck_size, .func (PySem.W.fnOf "check_size" "check_size" (defArgs scheck_size) (defBody scheck_size) (defScope scheck_size) .none kVcheck_size dccheck_size pmcheck_size ancheck_size cdcheck_size ctcheck_size), slcheck_size⟩)
    (ccheck_size : PySem.W.codeIn K cdcheck_size "check_size" = true)
    (kcheck_size : PySem.W.keepIn K (.ref fcheck_size) = true)
    (apause_steps : PySem.W.nsIn K mainGlobals "pause_steps" = some (some (.ref fpause_steps)))
    (lpause_steps : K.lookup fpause_steps = some ⟨ocpause_steps, odpause_steps, .func (PySem.W.fnOf "pause_steps" "pause_steps" (defArgs spause_steps) (defBody spause_steps) (defScope spause_steps) .none kVpause_steps dcpause_steps pmpause_steps anpause_steps cdpause_steps ctpause_steps), slpause_steps⟩)
    (cpause_steps : PySem.W.codeIn K cdpause_steps "pause_steps" = true)
    (kpause_steps : PySem.W.keepIn K (.ref fpause_steps) = true)
    (acheck_pauses : PySem.W.nsIn K mainGlobals "check_pauses" = some (some (.ref fcheck_pauses)))
    (lcheck_pauses : K.lookup fcheck_pauses = some ⟨occheck_pauses, odcheck_pauses, .func (PySem.W.fnOf "check_pauses" "check_pauses" (defArgs scheck_pauses) (defBody scheck_pauses) (defScope scheck_pauses) .none kVcheck_pauses dccheck_pauses pmcheck_pauses ancheck_pauses cdcheck_pauses ctcheck_pauses), slcheck_pauses⟩)
    (ccheck_pauses : PySem.W.codeIn K cdcheck_pauses "check_pauses" = true)
    (kcheck_pauses : PySem.W.keepIn K (.ref fcheck_pauses) = true)
    (aplain_steps : PySem.W.nsIn K mainGlobals "plain_steps" = some (some (.ref fplain_steps)))
    (lplain_steps : K.lookup fplain_steps = some ⟨ocplain_steps, odplain_steps, .func (PySem.W.fnOf "plain_steps" "plain_steps" (defArgs splain_steps) (defBody splain_steps) (defScope splain_steps) .none kVplain_steps dcplain_steps pmplain_steps anplain_steps cdplain_steps ctplain_steps), slplain_steps⟩)
    (cplain_steps : PySem.W.codeIn K cdplain_steps "plain_steps" = true)
    (kplain_steps : PySem.W.keepIn K (.ref fplain_steps) = true)
    (arun_of : PySem.W.nsIn K mainGlobals "run_of" = some (some (.ref frun_of)))
    (lrun_of : K.lookup frun_of = some ⟨ocrun_of, odrun_of, .func (PySem.W.fnOf "run_of" "run_of" (defArgs srun_of) (defBody srun_of) (defScope srun_of) .none kVrun_of dcrun_of pmrun_of anrun_of cdrun_of ctrun_of), slrun_of⟩)
    (crun_of : PySem.W.codeIn K cdrun_of "run_of" = true)
    (krun_of : PySem.W.keepIn K (.ref frun_of) = true)
    (acheck_run : PySem.W.nsIn K mainGlobals "check_run" = some (some (.ref fcheck_run)))
    (lcheck_run : K.lookup fcheck_run = some ⟨occheck_run, odcheck_run, .func (PySem.W.fnOf "check_run" "check_run" (defArgs scheck_run) (defBody scheck_run) (defScope scheck_run) .none kVcheck_run dccheck_run pmcheck_run ancheck_run cdcheck_run ctcheck_run), slcheck_run⟩)
    (ccheck_run : PySem.W.codeIn K cdcheck_run "check_run" = true)
    (kcheck_run : PySem.W.keepIn K (.ref fcheck_run) = true)
    (arun : PySem.W.nsIn K mainGlobals "run" = some (some (.ref frun)))
    (lrun : K.lookup frun = some ⟨ocrun, odrun, .func (PySem.W.fnOf "run" "run" (defArgs srun) (defBody srun) (defScope srun) .none kVrun dcrun pmrun anrun cdrun ctrun), slrun⟩)
    (crun : PySem.W.codeIn K cdrun "run" = true)
    (krun : PySem.W.keepIn K (.ref frun) = true)
    (a_law_mill : PySem.W.nsIn K mainGlobals "_law_mill" = some (some (.ref f_law_mill)))
    (l_law_mill : K.lookup f_law_mill = some ⟨oc_law_mill, od_law_mill, .func (PySem.W.fnOf "_law_mill" "_law_mill" (defArgs s_law_mill) (defBody s_law_mill) (defScope s_law_mill) .none kV_law_mill dc_law_mill pm_law_mill an_law_mill cd_law_mill ct_law_mill), sl_law_mill⟩)
    (c_law_mill : PySem.W.codeIn K cd_law_mill "_law_mill" = true)
    (k_law_mill : PySem.W.keepIn K (.ref f_law_mill) = true)
    (a_law_grain : PySem.W.nsIn K mainGlobals "_law_grain" = some (some (.ref f_law_grain)))
    (l_law_grain : K.lookup f_law_grain = some ⟨oc_law_grain, od_law_grain, .func (PySem.W.fnOf "_law_grain" "_law_grain" (defArgs s_law_grain) (defBody s_law_grain) (defScope s_law_grain) .none kV_law_grain dc_law_grain pm_law_grain an_law_grain cd_law_grain ct_law_grain), sl_law_grain⟩)
    (c_law_grain : PySem.W.codeIn K cd_law_grain "_law_grain" = true)
    (k_law_grain : PySem.W.keepIn K (.ref f_law_grain) = true)
    (a_law_pick : PySem.W.nsIn K mainGlobals "_law_pick" = some (some (.ref f_law_pick)))
    (l_law_pick : K.lookup f_law_pick = some ⟨oc_law_pick, od_law_pick, .func (PySem.W.fnOf "_law_pick" "_law_pick" (defArgs s_law_pick) (defBody s_law_pick) (defScope s_law_pick) .none kV_law_pick dc_law_pick pm_law_pick an_law_pick cd_law_pick ct_law_pick), sl_law_pick⟩)
    (c_law_pick : PySem.W.codeIn K cd_law_pick "_law_pick" = true)
    (k_law_pick : PySem.W.keepIn K (.ref f_law_pick) = true)
    (a_law_ways : PySem.W.nsIn K mainGlobals "_law_ways" = some (some (.ref f_law_ways)))
    (l_law_ways : K.lookup f_law_ways = some ⟨oc_law_ways, od_law_ways, .func (PySem.W.fnOf "_law_ways" "_law_ways" (defArgs s_law_ways) (defBody s_law_ways) (defScope s_law_ways) .none kV_law_ways dc_law_ways pm_law_ways an_law_ways cd_law_ways ct_law_ways), sl_law_ways⟩)
    (c_law_ways : PySem.W.codeIn K cd_law_ways "_law_ways" = true)
    (k_law_ways : PySem.W.keepIn K (.ref f_law_ways) = true)
    (a_law_told : PySem.W.nsIn K mainGlobals "_law_told" = some (some (.ref f_law_told)))
    (l_law_told : K.lookup f_law_told = some ⟨oc_law_told, od_law_told, .func (PySem.W.fnOf "_law_told" "_law_told" (defArgs s_law_told) (defBody s_law_told) (defScope s_law_told) .none kV_law_told dc_law_told pm_law_told an_law_told cd_law_told ct_law_told), sl_law_told⟩)
    (c_law_told : PySem.W.codeIn K cd_law_told "_law_told" = true)
    (k_law_told : PySem.W.keepIn K (.ref f_law_told) = true)
    (a_law_made : PySem.W.nsIn K mainGlobals "_law_made" = some (some (.ref f_law_made)))
    (l_law_made : K.lookup f_law_made = some ⟨oc_law_made, od_law_made, .func (PySem.W.fnOf "_law_made" "_law_made" (defArgs s_law_made) (defBody s_law_made) (defScope s_law_made) .none kV_law_made dc_law_made pm_law_made an_law_made cd_law_made ct_law_made), sl_law_made⟩)
    (c_law_made : PySem.W.codeIn K cd_law_made "_law_made" = true)
    (k_law_made : PySem.W.keepIn K (.ref f_law_made) = true)
    (a_law_amount : PySem.W.nsIn K mainGlobals "_law_amount" = some (some (.ref f_law_amount)))
    (l_law_amount : K.lookup f_law_amount = some ⟨oc_law_amount, od_law_amount, .func (PySem.W.fnOf "_law_amount" "_law_amount" (defArgs s_law_amount) (defBody s_law_amount) (defScope s_law_amount) .none kV_law_amount dc_law_amount pm_law_amount an_law_amount cd_law_amount ct_law_amount), sl_law_amount⟩)
    (c_law_amount : PySem.W.codeIn K cd_law_amount "_law_amount" = true)
    (k_law_amount : PySem.W.keepIn K (.ref f_law_amount) = true)
    (a_law_plans : PySem.W.nsIn K mainGlobals "_law_plans" = some (some (.ref f_law_plans)))
    (l_law_plans : K.lookup f_law_plans = some ⟨oc_law_plans, od_law_plans, .func (PySem.W.fnOf "_law_plans" "_law_plans" (defArgs s_law_plans) (defBody s_law_plans) (defScope s_law_plans) .none kV_law_plans dc_law_plans pm_law_plans an_law_plans cd_law_plans ct_law_plans), sl_law_plans⟩)
    (c_law_plans : PySem.W.codeIn K cd_law_plans "_law_plans" = true)
    (k_law_plans : PySem.W.keepIn K (.ref f_law_plans) = true)
    (a_law_choice : PySem.W.nsIn K mainGlobals "_law_choice" = some (some (.ref f_law_choice)))
    (l_law_choice : K.lookup f_law_choice = some ⟨oc_law_choice, od_law_choice, .func (PySem.W.fnOf "_law_choice" "_law_choice" (defArgs s_law_choice) (defBody s_law_choice) (defScope s_law_choice) .none kV_law_choice dc_law_choice pm_law_choice an_law_choice cd_law_choice ct_law_choice), sl_law_choice⟩)
    (c_law_choice : PySem.W.codeIn K cd_law_choice "_law_choice" = true)
    (k_law_choice : PySem.W.keepIn K (.ref f_law_choice) = true)
    (a_law_right : PySem.W.nsIn K mainGlobals "_law_right" = some (some (.ref f_law_right)))
    (l_law_right : K.lookup f_law_right = some ⟨oc_law_right, od_law_right, .func (PySem.W.fnOf "_law_right" "_law_right" (defArgs s_law_right) (defBody s_law_right) (defScope s_law_right) .none kV_law_right dc_law_right pm_law_right an_law_right cd_law_right ct_law_right), sl_law_right⟩)
    (c_law_right : PySem.W.codeIn K cd_law_right "_law_right" = true)
    (k_law_right : PySem.W.keepIn K (.ref f_law_right) = true)
    (alaw : PySem.W.nsIn K mainGlobals "law" = some (some (.ref flaw)))
    (llaw : K.lookup flaw = some ⟨oclaw, odlaw, .func (PySem.W.fnOf "law" "law" (defArgs slaw) (defBody slaw) (defScope slaw) .none kVlaw dclaw pmlaw anlaw cdlaw ctlaw), sllaw⟩)
    (claw : PySem.W.codeIn K cdlaw "law" = true)
    (klaw : PySem.W.keepIn K (.ref flaw) = true)
    (iFlow_kept : PySem.W.findIn K (.ref cFlow) "kept" = some (some (.ref fFlow_kept)))
    (lFlow_kept : K.lookup fFlow_kept = some ⟨ocFlow_kept, odFlow_kept, .func (PySem.W.fnOf "kept" "Flow.kept" (defArgs sFlow_kept) (defBody sFlow_kept) (defScope sFlow_kept) .none kVFlow_kept dcFlow_kept pmFlow_kept anFlow_kept cdFlow_kept ctFlow_kept), slFlow_kept⟩)
    (cFlow_kept : PySem.W.codeIn K cdFlow_kept "Flow.kept" = true)
    (kFlow_kept : PySem.W.keepIn K (.ref fFlow_kept) = true)
    (nFlow_kept : PySem.W.isFn K (.ref fFlow_kept) = true)
    (iFlow_fresh : PySem.W.findIn K (.ref cFlow) "fresh" = some (some (.ref fFlow_fresh)))
    (lFlow_fresh : K.lookup fFlow_fresh = some ⟨ocFlow_fresh, odFlow_fresh, .func (PySem.W.fnOf "fresh" "Flow.fresh" (defArgs sFlow_fresh) (defBody sFlow_fresh) (defScope sFlow_fresh) .none kVFlow_fresh dcFlow_fresh pmFlow_fresh anFlow_fresh cdFlow_fresh ctFlow_fresh), slFlow_fresh⟩)
    (cFlow_fresh : PySem.W.codeIn K cdFlow_fresh "Flow.fresh" = true)
    (kFlow_fresh : PySem.W.keepIn K (.ref fFlow_fresh) = true)
    (nFlow_fresh : PySem.W.isFn K (.ref fFlow_fresh) = true)
    (iFlow_take_out : PySem.W.findIn K (.ref cFlow) "take_out" = some (some (.ref fFlow_take_out)))
    (lFlow_take_out : K.lookup fFlow_take_out = some ⟨ocFlow_take_out, odFlow_take_out, .func (PySem.W.fnOf "take_out" "Flow.take_out" (defArgs sFlow_take_out) (defBody sFlow_take_out) (defScope sFlow_take_out) .none kVFlow_take_out dcFlow_take_out pmFlow_take_out anFlow_take_out cdFlow_take_out ctFlow_take_out), slFlow_take_out⟩)
    (cFlow_take_out : PySem.W.codeIn K cdFlow_take_out "Flow.take_out" = true)
    (kFlow_take_out : PySem.W.keepIn K (.ref fFlow_take_out) = true)
    (nFlow_take_out : PySem.W.isFn K (.ref fFlow_take_out) = true)
    (iFlow_send : PySem.W.findIn K (.ref cFlow) "send" = some (some (.ref fFlow_send)))
    (lFlow_send : K.lookup fFlow_send = some ⟨ocFlow_send, odFlow_send, .func (PySem.W.fnOf "send" "Flow.send" (defArgs sFlow_send) (defBody sFlow_send) (defScope sFlow_send) .none kVFlow_send dcFlow_send pmFlow_send anFlow_send cdFlow_send ctFlow_send), slFlow_send⟩)
    (cFlow_send : PySem.W.codeIn K cdFlow_send "Flow.send" = true)
    (kFlow_send : PySem.W.keepIn K (.ref fFlow_send) = true)
    (nFlow_send : PySem.W.isFn K (.ref fFlow_send) = true)
    (iFlow_lets : PySem.W.findIn K (.ref cFlow) "lets" = some (some (.ref fFlow_lets)))
    (lFlow_lets : K.lookup fFlow_lets = some ⟨ocFlow_lets, odFlow_lets, .func (PySem.W.fnOf "lets" "Flow.lets" (defArgs sFlow_lets) (defBody sFlow_lets) (defScope sFlow_lets) .none kVFlow_lets dcFlow_lets pmFlow_lets anFlow_lets cdFlow_lets ctFlow_lets), slFlow_lets⟩)
    (cFlow_lets : PySem.W.codeIn K cdFlow_lets "Flow.lets" = true)
    (kFlow_lets : PySem.W.keepIn K (.ref fFlow_lets) = true)
    (nFlow_lets : PySem.W.isFn K (.ref fFlow_lets) = true)
    (iFlow_let_go : PySem.W.findIn K (.ref cFlow) "let_go" = some (some (.ref fFlow_let_go)))
    (lFlow_let_go : K.lookup fFlow_let_go = some ⟨ocFlow_let_go, odFlow_let_go, .func (PySem.W.fnOf "let_go" "Flow.let_go" (defArgs sFlow_let_go) (defBody sFlow_let_go) (defScope sFlow_let_go) .none kVFlow_let_go dcFlow_let_go pmFlow_let_go anFlow_let_go cdFlow_let_go ctFlow_let_go), slFlow_let_go⟩)
    (cFlow_let_go : PySem.W.codeIn K cdFlow_let_go "Flow.let_go" = true)
    (kFlow_let_go : PySem.W.keepIn K (.ref fFlow_let_go) = true)
    (nFlow_let_go : PySem.W.isFn K (.ref fFlow_let_go) = true)
    (iFlow_put : PySem.W.findIn K (.ref cFlow) "put" = some (some (.ref fFlow_put)))
    (lFlow_put : K.lookup fFlow_put = some ⟨ocFlow_put, odFlow_put, .func (PySem.W.fnOf "put" "Flow.put" (defArgs sFlow_put) (defBody sFlow_put) (defScope sFlow_put) .none kVFlow_put dcFlow_put pmFlow_put anFlow_put cdFlow_put ctFlow_put), slFlow_put⟩)
    (cFlow_put : PySem.W.codeIn K cdFlow_put "Flow.put" = true)
    (kFlow_put : PySem.W.keepIn K (.ref fFlow_put) = true)
    (nFlow_put : PySem.W.isFn K (.ref fFlow_put) = true)
    (iFlow_land : PySem.W.findIn K (.ref cFlow) "land" = some (some (.ref fFlow_land)))
    (lFlow_land : K.lookup fFlow_land = some ⟨ocFlow_land, odFlow_land, .func (PySem.W.fnOf "land" "Flow.land" (defArgs sFlow_land) (defBody sFlow_land) (defScope sFlow_land) .none kVFlow_land dcFlow_land pmFlow_land anFlow_land cdFlow_land ctFlow_land), slFlow_land⟩)
    (cFlow_land : PySem.W.codeIn K cdFlow_land "Flow.land" = true)
    (kFlow_land : PySem.W.keepIn K (.ref fFlow_land) = true)
    (nFlow_land : PySem.W.isFn K (.ref fFlow_land) = true)
    (iFlow_begin : PySem.W.findIn K (.ref cFlow) "begin" = some (some (.ref fFlow_begin)))
    (lFlow_begin : K.lookup fFlow_begin = some ⟨ocFlow_begin, odFlow_begin, .func (PySem.W.fnOf "begin" "Flow.begin" (defArgs sFlow_begin) (defBody sFlow_begin) (defScope sFlow_begin) .none kVFlow_begin dcFlow_begin pmFlow_begin anFlow_begin cdFlow_begin ctFlow_begin), slFlow_begin⟩)
    (cFlow_begin : PySem.W.codeIn K cdFlow_begin "Flow.begin" = true)
    (kFlow_begin : PySem.W.keepIn K (.ref fFlow_begin) = true)
    (nFlow_begin : PySem.W.isFn K (.ref fFlow_begin) = true)
    (iFlow_is_due : PySem.W.findIn K (.ref cFlow) "is_due" = some (some (.ref fFlow_is_due)))
    (lFlow_is_due : K.lookup fFlow_is_due = some ⟨ocFlow_is_due, odFlow_is_due, .func (PySem.W.fnOf "is_due" "Flow.is_due" (defArgs sFlow_is_due) (defBody sFlow_is_due) (defScope sFlow_is_due) .none kVFlow_is_due dcFlow_is_due pmFlow_is_due anFlow_is_due cdFlow_is_due ctFlow_is_due), slFlow_is_due⟩)
    (cFlow_is_due : PySem.W.codeIn K cdFlow_is_due "Flow.is_due" = true)
    (kFlow_is_due : PySem.W.keepIn K (.ref fFlow_is_due) = true)
    (nFlow_is_due : PySem.W.isFn K (.ref fFlow_is_due) = true)
    (iFlow_leave : PySem.W.findIn K (.ref cFlow) "leave" = some (some (.ref fFlow_leave)))
    (lFlow_leave : K.lookup fFlow_leave = some ⟨ocFlow_leave, odFlow_leave, .func (PySem.W.fnOf "leave" "Flow.leave" (defArgs sFlow_leave) (defBody sFlow_leave) (defScope sFlow_leave) .none kVFlow_leave dcFlow_leave pmFlow_leave anFlow_leave cdFlow_leave ctFlow_leave), slFlow_leave⟩)
    (cFlow_leave : PySem.W.codeIn K cdFlow_leave "Flow.leave" = true)
    (kFlow_leave : PySem.W.keepIn K (.ref fFlow_leave) = true)
    (nFlow_leave : PySem.W.isFn K (.ref fFlow_leave) = true)
    (iFlow_next_tick : PySem.W.findIn K (.ref cFlow) "next_tick" = some (some (.ref fFlow_next_tick)))
    (lFlow_next_tick : K.lookup fFlow_next_tick = some ⟨ocFlow_next_tick, odFlow_next_tick, .func (PySem.W.fnOf "next_tick" "Flow.next_tick" (defArgs sFlow_next_tick) (defBody sFlow_next_tick) (defScope sFlow_next_tick) .none kVFlow_next_tick dcFlow_next_tick pmFlow_next_tick anFlow_next_tick cdFlow_next_tick ctFlow_next_tick), slFlow_next_tick⟩)
    (cFlow_next_tick : PySem.W.codeIn K cdFlow_next_tick "Flow.next_tick" = true)
    (kFlow_next_tick : PySem.W.keepIn K (.ref fFlow_next_tick) = true)
    (nFlow_next_tick : PySem.W.isFn K (.ref fFlow_next_tick) = true)
    (iCourse_pass_step : PySem.W.findIn K (.ref cCourse) "pass_step" = some (some (.ref fCourse_pass_step)))
    (lCourse_pass_step : K.lookup fCourse_pass_step = some ⟨ocCourse_pass_step, odCourse_pass_step, .func (PySem.W.fnOf "pass_step" "Course.pass_step" (defArgs sCourse_pass_step) (defBody sCourse_pass_step) (defScope sCourse_pass_step) .none kVCourse_pass_step dcCourse_pass_step pmCourse_pass_step anCourse_pass_step cdCourse_pass_step ctCourse_pass_step), slCourse_pass_step⟩)
    (cCourse_pass_step : PySem.W.codeIn K cdCourse_pass_step "Course.pass_step" = true)
    (kCourse_pass_step : PySem.W.keepIn K (.ref fCourse_pass_step) = true)
    (nCourse_pass_step : PySem.W.isFn K (.ref fCourse_pass_step) = true)
    (iCourse_rests : PySem.W.findIn K (.ref cCourse) "rests" = some (some (.ref fCourse_rests)))
    (lCourse_rests : K.lookup fCourse_rests = some ⟨ocCourse_rests, odCourse_rests, .func (PySem.W.fnOf "rests" "Course.rests" (defArgs sCourse_rests) (defBody sCourse_rests) (defScope sCourse_rests) .none kVCourse_rests dcCourse_rests pmCourse_rests anCourse_rests cdCourse_rests ctCourse_rests), slCourse_rests⟩)
    (cCourse_rests : PySem.W.codeIn K cdCourse_rests "Course.rests" = true)
    (kCourse_rests : PySem.W.keepIn K (.ref fCourse_rests) = true)
    (nCourse_rests : PySem.W.isFn K (.ref fCourse_rests) = true)
    (iCourse_do_step : PySem.W.findIn K (.ref cCourse) "do_step" = some (some (.ref fCourse_do_step)))
    (lCourse_do_step : K.lookup fCourse_do_step = some ⟨ocCourse_do_step, odCourse_do_step, .func (PySem.W.fnOf "do_step" "Course.do_step" (defArgs sCourse_do_step) (defBody sCourse_do_step) (defScope sCourse_do_step) .none kVCourse_do_step dcCourse_do_step pmCourse_do_step anCourse_do_step cdCourse_do_step ctCourse_do_step), slCourse_do_step⟩)
    (cCourse_do_step : PySem.W.codeIn K cdCourse_do_step "Course.do_step" = true)
    (kCourse_do_step : PySem.W.keepIn K (.ref fCourse_do_step) = true)
    (nCourse_do_step : PySem.W.isFn K (.ref fCourse_do_step) = true)
    (iCourse_go_on : PySem.W.findIn K (.ref cCourse) "go_on" = some (some (.ref fCourse_go_on)))
    (lCourse_go_on : K.lookup fCourse_go_on = some ⟨ocCourse_go_on, odCourse_go_on, .func (PySem.W.fnOf "go_on" "Course.go_on" (defArgs sCourse_go_on) (defBody sCourse_go_on) (defScope sCourse_go_on) .none kVCourse_go_on dcCourse_go_on pmCourse_go_on anCourse_go_on cdCourse_go_on ctCourse_go_on), slCourse_go_on⟩)
    (cCourse_go_on : PySem.W.codeIn K cdCourse_go_on "Course.go_on" = true)
    (kCourse_go_on : PySem.W.keepIn K (.ref fCourse_go_on) = true)
    (nCourse_go_on : PySem.W.isFn K (.ref fCourse_go_on) = true)
    (iFlow___init__ : PySem.W.findIn K (.ref cFlow) "__init__" = some (some (.ref fFlow___init__)))
    (lFlow___init__ : K.lookup fFlow___init__ = some ⟨ocFlow___init__, odFlow___init__, .func (PySem.W.fnOf "__init__" "Flow.__init__" (defArgs sFlow___init__) (defBody sFlow___init__) (defScope sFlow___init__) .none kVFlow___init__ dcFlow___init__ pmFlow___init__ anFlow___init__ cdFlow___init__ ctFlow___init__), slFlow___init__⟩)
    (cFlow___init__ : PySem.W.codeIn K cdFlow___init__ "Flow.__init__" = true)
    (kFlow___init__ : PySem.W.keepIn K (.ref fFlow___init__) = true)
    (nFlow___init__ : PySem.W.isFn K (.ref fFlow___init__) = true)
    (wFlow___init__ : PySem.W.makesIn K cFlow = true)
    (qFlow___init__ : PySem.W.keepIn K (.ref cFlow) = true)
    (iCourse___init__ : PySem.W.findIn K (.ref cCourse) "__init__" = some (some (.ref fCourse___init__)))
    (lCourse___init__ : K.lookup fCourse___init__ = some ⟨ocCourse___init__, odCourse___init__, .func (PySem.W.fnOf "__init__" "Course.__init__" (defArgs sCourse___init__) (defBody sCourse___init__) (defScope sCourse___init__) .none kVCourse___init__ dcCourse___init__ pmCourse___init__ anCourse___init__ cdCourse___init__ ctCourse___init__), slCourse___init__⟩)
    (cCourse___init__ : PySem.W.codeIn K cdCourse___init__ "Course.__init__" = true)
    (kCourse___init__ : PySem.W.keepIn K (.ref fCourse___init__) = true)
    (nCourse___init__ : PySem.W.isFn K (.ref fCourse___init__) = true)
    (wCourse___init__ : PySem.W.makesIn K cCourse = true)
    (qCourse___init__ : PySem.W.keepIn K (.ref cCourse) = true)
    (iSetting___init__ : PySem.W.findIn K (.ref cSetting) "__init__" = some (some (.ref fSetting___init__)))
    (lSetting___init__ : K.lookup fSetting___init__ = some ⟨ocSetting___init__, odSetting___init__, .func (PySem.W.fnOf "__init__" "Setting.__init__" (defArgs sSetting___init__) (defBody sSetting___init__) (defScope sSetting___init__) .none kVSetting___init__ dcSetting___init__ pmSetting___init__ anSetting___init__ cdSetting___init__ ctSetting___init__), slSetting___init__⟩)
    (cSetting___init__ : PySem.W.codeIn K cdSetting___init__ "Setting.__init__" = true)
    (kSetting___init__ : PySem.W.keepIn K (.ref fSetting___init__) = true)
    (nSetting___init__ : PySem.W.isFn K (.ref fSetting___init__) = true)
    (wSetting___init__ : PySem.W.makesIn K cSetting = true)
    (qSetting___init__ : PySem.W.keepIn K (.ref cSetting) = true)
    (iLine___init__ : PySem.W.findIn K (.ref cLine) "__init__" = some (some (.ref fLine___init__)))
    (lLine___init__ : K.lookup fLine___init__ = some ⟨ocLine___init__, odLine___init__, .func (PySem.W.fnOf "__init__" "Line.__init__" (defArgs sLine___init__) (defBody sLine___init__) (defScope sLine___init__) .none kVLine___init__ dcLine___init__ pmLine___init__ anLine___init__ cdLine___init__ ctLine___init__), slLine___init__⟩)
    (cLine___init__ : PySem.W.codeIn K cdLine___init__ "Line.__init__" = true)
    (kLine___init__ : PySem.W.keepIn K (.ref fLine___init__) = true)
    (nLine___init__ : PySem.W.isFn K (.ref fLine___init__) = true)
    (wLine___init__ : PySem.W.makesIn K cLine = true)
    (qLine___init__ : PySem.W.keepIn K (.ref cLine) = true)
    (iRun___init__ : PySem.W.findIn K (.ref cRun) "__init__" = some (some (.ref fRun___init__)))
    (lRun___init__ : K.lookup fRun___init__ = some ⟨ocRun___init__, odRun___init__, .func (PySem.W.fnOf "__init__" "Run.__init__" (defArgs sRun___init__) (defBody sRun___init__) (defScope sRun___init__) .none kVRun___init__ dcRun___init__ pmRun___init__ anRun___init__ (.ref cR) ctRun___init__), slRun___init__⟩)
    (cRun___init__ : PySem.W.codeIn K (.ref cR) "Run.__init__" = true)
    (kRun___init__ : PySem.W.keepIn K (.ref fRun___init__) = true)
    (nRun___init__ : PySem.W.isFn K (.ref fRun___init__) = true)
    (wRun___init__ : PySem.W.makesIn K cRun = true)
    (qRun___init__ : PySem.W.keepIn K (.ref cRun) = true)
    (p1Flow : PySem.W.plainGet K cFlow Str.empty = true)
    (p2Flow : PySem.W.hasDictIn K cFlow = true)
    (p3Flow : PySem.W.plainOver K cFlow = true)
    (p4Flow : PySem.W.findIn K (.ref cFlow) "__setattr__" = some (some (.builtin "object.__setattr__")))
    (xFlow_line : PySem.W.findIn K (.ref cFlow) "line" = some none)
    (xFlow_settings : PySem.W.findIn K (.ref cFlow) "settings" = some none)
    (xFlow_tick : PySem.W.findIn K (.ref cFlow) "tick" = some none)
    (xFlow_stock : PySem.W.findIn K (.ref cFlow) "stock" = some none)
    (xFlow_out : PySem.W.findIn K (.ref cFlow) "out" = some none)
    (xFlow_known : PySem.W.findIn K (.ref cFlow) "known" = some none)
    (xFlow_small : PySem.W.findIn K (.ref cFlow) "small" = some none)
    (xFlow_come : PySem.W.findIn K (.ref cFlow) "come" = some none)
    (xFlow_taken : PySem.W.findIn K (.ref cFlow) "taken" = some none)
    (xFlow_full : PySem.W.findIn K (.ref cFlow) "full" = some none)
    (xFlow_first : PySem.W.findIn K (.ref cFlow) "first" = some none)
    (xFlow_long : PySem.W.findIn K (.ref cFlow) "long" = some none)
    (xFlow_flight : PySem.W.findIn K (.ref cFlow) "flight" = some none)
    (xFlow_log : PySem.W.findIn K (.ref cFlow) "log" = some none)
    (p1Course : PySem.W.plainGet K cCourse Str.empty = true)
    (p2Course : PySem.W.hasDictIn K cCourse = true)
    (p3Course : PySem.W.plainOver K cCourse = true)
    (p4Course : PySem.W.findIn K (.ref cCourse) "__setattr__" = some (some (.builtin "object.__setattr__")))
    (xCourse_steps : PySem.W.findIn K (.ref cCourse) "steps" = some none)
    (xCourse_again : PySem.W.findIn K (.ref cCourse) "again" = some none)
    (xCourse_place : PySem.W.findIn K (.ref cCourse) "place" = some none)
    (xCourse_until : PySem.W.findIn K (.ref cCourse) "until" = some none)
    (xCourse_ended : PySem.W.findIn K (.ref cCourse) "ended" = some none)
    (xCourse_begun : PySem.W.findIn K (.ref cCourse) "begun" = some none)
    (p1Setting : PySem.W.plainGet K cSetting Str.empty = true)
    (p2Setting : PySem.W.hasDictIn K cSetting = true)
    (p3Setting : PySem.W.plainOver K cSetting = true)
    (p4Setting : PySem.W.findIn K (.ref cSetting) "__setattr__" = some (some (.builtin "object.__setattr__")))
    (xSetting_rule : PySem.W.findIn K (.ref cSetting) "rule" = some none)
    (xSetting_every : PySem.W.findIn K (.ref cSetting) "every" = some none)
    (xSetting_delay : PySem.W.findIn K (.ref cSetting) "delay" = some none)
    (xSetting_told : PySem.W.findIn K (.ref cSetting) "told" = some none)
    (p1Line : PySem.W.plainGet K cLine Str.empty = true)
    (p2Line : PySem.W.hasDictIn K cLine = true)
    (p3Line : PySem.W.plainOver K cLine = true)
    (p4Line : PySem.W.findIn K (.ref cLine) "__setattr__" = some (some (.builtin "object.__setattr__")))
    (xLine_size : PySem.W.findIn K (.ref cLine) "size" = some none)
    (xLine_way : PySem.W.findIn K (.ref cLine) "way" = some none)
    (xLine_near : PySem.W.findIn K (.ref cLine) "near" = some none)
    (xLine_far : PySem.W.findIn K (.ref cLine) "far" = some none)
    (xLine_told : PySem.W.findIn K (.ref cLine) "told" = some none)
    (p1Run : PySem.W.plainGet K cRun Str.empty = true)
    (p2Run : PySem.W.hasDictIn K cRun = true)
    (p3Run : PySem.W.plainOver K cRun = true)
    (p4Run : PySem.W.findIn K (.ref cRun) "__setattr__" = some (some (.builtin "object.__setattr__")))
    (xRun_ends : PySem.W.findIn K (.ref cRun) "ends" = some none)
    (xRun_stuck : PySem.W.findIn K (.ref cRun) "stuck" = some none)
    (xRun_pieces : PySem.W.findIn K (.ref cRun) "pieces" = some none)
    (xRun_answers : PySem.W.findIn K (.ref cRun) "answers" = some none)
    (xRun_held : PySem.W.findIn K (.ref cRun) "held" = some none)
    (xRun_unread : PySem.W.findIn K (.ref cRun) "unread" = some none)
    (xRun_quiet : PySem.W.findIn K (.ref cRun) "quiet" = some none)
    (xRun_all : PySem.W.findIn K (.ref cRun) "all" = some none)
    (y1 : PySem.W.specialIn K (.builtin "object.__class__") "__get__" = some (some (.builtin "getset_descriptor.__get__")))
    (y2 : PySem.W.takesIn K (.builtin "object.__class__") = some true)
    (y3Setting : PySem.W.findIn K (.ref cSetting) "__class__" = some (some (.builtin "object.__class__")))
    (y4Setting : PySem.W.mroIn K cSetting (.type "object") = some true)
    (y3Line : PySem.W.findIn K (.ref cLine) "__class__" = some (some (.builtin "object.__class__")))
    (y4Line : PySem.W.mroIn K cLine (.type "object") = some true)
    (gMOST_SIZE : PySem.W.nsIn K mainGlobals "MOST_SIZE" = some (some uMOST_SIZE))
    (hMOST_SIZE : RelV (.int 40) uMOST_SIZE)
    (gMOST_WAY : PySem.W.nsIn K mainGlobals "MOST_WAY" = some (some uMOST_WAY))
    (hMOST_WAY : RelV (.int 200) uMOST_WAY)
    (gMOST_EVERY : PySem.W.nsIn K mainGlobals "MOST_EVERY" = some (some uMOST_EVERY))
    (hMOST_EVERY : RelV (.int 4) uMOST_EVERY)
    (gMOST_DELAY : PySem.W.nsIn K mainGlobals "MOST_DELAY" = some (some uMOST_DELAY))
    (hMOST_DELAY : RelV (.int 200) uMOST_DELAY)
    (gMOST_STEPS : PySem.W.nsIn K mainGlobals "MOST_STEPS" = some (some uMOST_STEPS))
    (hMOST_STEPS : RelV (.int 6) uMOST_STEPS)
    (gMOST_BYTES : PySem.W.nsIn K mainGlobals "MOST_BYTES" = some (some uMOST_BYTES))
    (hMOST_BYTES : RelV (.int 60) uMOST_BYTES)
    (gMOST_X : PySem.W.nsIn K mainGlobals "MOST_X" = some (some uMOST_X))
    (hMOST_X : RelV (.int 2000) uMOST_X)
    (gLETTER : PySem.W.nsIn K mainGlobals "LETTER" = some (some uLETTER))
    (hLETTER : RelV (.str "x") uLETTER)
    (gRULES : PySem.W.nsIn K mainGlobals "RULES" = some (some (.ref aR)))
    (r1 : K.lookup aR = some oR)
    (r2 : oR.cls = .type "tuple")
    (r3 : oR.data = .seq vR nR)
    (r4 : vR.size ≤ sizeLine)
    (r5 : Vals [.str "plain", .str "hold", .str "few"] vR.toList)
    (zlen : PySem.W.nsIn K mainGlobals "len" = some none)
    (zsum : PySem.W.nsIn K mainGlobals "sum" = some none)
    (zmax : PySem.W.nsIn K mainGlobals "max" = some none)
    (zmin : PySem.W.nsIn K mainGlobals "min" = some none)
    (zabs : PySem.W.nsIn K mainGlobals "abs" = some none)
    (zdivmod : PySem.W.nsIn K mainGlobals "divmod" = some none)
    (zall : PySem.W.nsIn K mainGlobals "all" = some none)
    (zisinstance : PySem.W.nsIn K mainGlobals "isinstance" = some none)
    (zint : PySem.W.nsIn K mainGlobals "int" = some none)
    (zbool : PySem.W.nsIn K mainGlobals "bool" = some none)
    (zstr : PySem.W.nsIn K mainGlobals "str" = some none)
    (ztuple : PySem.W.nsIn K mainGlobals "tuple" = some none)
    (zlist : PySem.W.nsIn K mainGlobals "list" = some none)
    (zrange : PySem.W.nsIn K mainGlobals "range" = some none)
    (zzip : PySem.W.nsIn K mainGlobals "zip" = some none)
    (zenumerate : PySem.W.nsIn K mainGlobals "enumerate" = some none)
    (zsorted : PySem.W.nsIn K mainGlobals "sorted" = some none)
    (t1 : K.lookup tab = none)
    (t2 : PySem.W.codeHdIn K cR tab = true)
    : LawAtS l w K L2.CX0 11 63 "_law_script" mg fa h := by
  have e := hfa.symm.trans (PySem.W.mg_of KX G alaw)
  cases e
  let C : AD := ⟨cFlow, cCourse, cSetting, cLine, cRun, aR, tab⟩
  have clFlow : Cls K cFlow := ⟨p1Flow, p2Flow, p3Flow, p4Flow⟩
  have clCourse : Cls K cCourse := ⟨p1Course, p2Course, p3Course, p4Course⟩
  have clSetting : Cls K cSetting := ⟨p1Setting, p2Setting, p3Setting, p4Setting⟩
  have clLine : Cls K cLine := ⟨p1Line, p2Line, p3Line, p4Line⟩
  have clRun : Cls K cRun := ⟨p1Run, p2Run, p3Run, p4Run⟩
  have T : Txt K mg C := {
    cl_Flow := clFlow,
    m_Flow := PySem.W.mg_of KX G mFlow,
    n_Flow_line := xFlow_line,
    n_Flow_settings := xFlow_settings,
    n_Flow_tick := xFlow_tick,
    n_Flow_stock := xFlow_stock,
    n_Flow_out := xFlow_out,
    n_Flow_known := xFlow_known,
    n_Flow_small := xFlow_small,
    n_Flow_come := xFlow_come,
    n_Flow_taken := xFlow_taken,
    n_Flow_full := xFlow_full,
    n_Flow_first := xFlow_first,
    n_Flow_long := xFlow_long,
    n_Flow_flight := xFlow_flight,
    n_Flow_log := xFlow_log,
    cl_Course := clCourse,
    m_Course := PySem.W.mg_of KX G mCourse,
    n_Course_steps := xCourse_steps,
    n_Course_again := xCourse_again,
    n_Course_place := xCourse_place,
    n_Course_until := xCourse_until,
    n_Course_ended := xCourse_ended,
    n_Course_begun := xCourse_begun,
    cl_Setting := clSetting,
    m_Setting := PySem.W.mg_of KX G mSetting,
    n_Setting_rule := xSetting_rule,
    n_Setting_every := xSetting_every,
    n_Setting_delay := xSetting_delay,
    n_Setting_told := xSetting_told,
    cl_Line := clLine,
    m_Line := PySem.W.mg_of KX G mLine,
    n_Line_size := xLine_size,
    n_Line_way := xLine_way,
    n_Line_near := xLine_near,
    n_Line_far := xLine_far,
    n_Line_told := xLine_told,
    cl_Run := clRun,
    m_Run := PySem.W.mg_of KX G mRun,
    n_Run_ends := xRun_ends,
    n_Run_stuck := xRun_stuck,
    n_Run_pieces := xRun_pieces,
    n_Run_answers := xRun_answers,
    n_Run_held := xRun_held,
    n_Run_unread := xRun_unread,
    n_Run_quiet := xRun_quiet,
    n_Run_all := xRun_all,
    g_MOST_SIZE := ⟨_, PySem.W.mg_of KX G gMOST_SIZE, hMOST_SIZE⟩,
    g_MOST_WAY := ⟨_, PySem.W.mg_of KX G gMOST_WAY, hMOST_WAY⟩,
    g_MOST_EVERY := ⟨_, PySem.W.mg_of KX G gMOST_EVERY, hMOST_EVERY⟩,
    g_MOST_DELAY := ⟨_, PySem.W.mg_of KX G gMOST_DELAY, hMOST_DELAY⟩,
    g_MOST_STEPS := ⟨_, PySem.W.mg_of KX G gMOST_STEPS, hMOST_STEPS⟩,
    g_MOST_BYTES := ⟨_, PySem.W.mg_of KX G gMOST_BYTES, hMOST_BYTES⟩,
    g_MOST_X := ⟨_, PySem.W.mg_of KX G gMOST_X, hMOST_X⟩,
    g_LETTER := ⟨_, PySem.W.mg_of KX G gLETTER, hLETTER⟩,
    g_RULES := ⟨_, PySem.W.mg_of KX G gRULES, rfl⟩,
    g_Setting := ⟨_, PySem.W.mg_of KX G mSetting, rfl⟩,
    i_Setting := ⟨clSetting, y3Setting, y1, y2, y4Setting, kit_self⟩,
    g_Line := ⟨_, PySem.W.mg_of KX G mLine, rfl⟩,
    i_Line := ⟨clLine, y3Line, y1, y2, y4Line, kit_self⟩,
    rules := fun H => .inr ⟨oR, vR, nR, r1, r2, r3, r4, r5⟩,
    z_len := PySem.W.mg_none_of KX G zlen,
    z_sum := PySem.W.mg_none_of KX G zsum,
    z_max := PySem.W.mg_none_of KX G zmax,
    z_min := PySem.W.mg_none_of KX G zmin,
    z_abs := PySem.W.mg_none_of KX G zabs,
    z_divmod := PySem.W.mg_none_of KX G zdivmod,
    z_all := PySem.W.mg_none_of KX G zall,
    z_isinstance := PySem.W.mg_none_of KX G zisinstance,
    z_int := PySem.W.mg_none_of KX G zint,
    z_bool := PySem.W.mg_none_of KX G zbool,
    z_str := PySem.W.mg_none_of KX G zstr,
    z_tuple := PySem.W.mg_none_of KX G ztuple,
    z_list := PySem.W.mg_none_of KX G zlist,
    z_range := PySem.W.mg_none_of KX G zrange,
    z_zip := PySem.W.mg_none_of KX G zzip,
    z_enumerate := PySem.W.mg_none_of KX G zenumerate,
    z_sorted := PySem.W.mg_none_of KX G zsorted }
  have FFlow_next_tick := fun_mk (st := sFlow_next_tick) lFlow_next_tick cFlow_next_tick kFlow_next_tick
  have BFlow_next_tick := FFlow_next_tick.binds (ps := ["self"]) fun _ _ _ _ _ _ us hl => match us, hl with | [_], _ => rfl
  have Fevents := fun_mk (st := sevents) levents cevents kevents
  have Bevents := Fevents.binds (ps := ["flow", "courses"]) fun _ _ _ _ _ _ us hl => match us, hl with | [_, _], _ => rfl
  have FFlow_is_due := fun_mk (st := sFlow_is_due) lFlow_is_due cFlow_is_due kFlow_is_due
  have BFlow_is_due := FFlow_is_due.binds (ps := ["self", "side"]) fun _ _ _ _ _ _ us hl => match us, hl with | [_, _], _ => rfl
  have FFlow_take_out := fun_mk (st := sFlow_take_out) lFlow_take_out cFlow_take_out kFlow_take_out
  have BFlow_take_out := FFlow_take_out.binds (ps := ["self", "side", "amount"]) fun _ _ _ _ _ _ us hl => match us, hl with | [_, _, _], _ => rfl
  have FFlow_send := fun_mk (st := sFlow_send) lFlow_send cFlow_send kFlow_send
  have BFlow_send := FFlow_send.binds (ps := ["self", "side", "amount"]) fun _ _ _ _ _ _ us hl => match us, hl with | [_, _, _], _ => rfl
  have FFlow_leave := fun_mk (st := sFlow_leave) lFlow_leave cFlow_leave kFlow_leave
  have BFlow_leave := FFlow_leave.binds (ps := ["self"]) fun _ _ _ _ _ _ us hl => match us, hl with | [_], _ => rfl
  have FCourse_pass_step := fun_mk (st := sCourse_pass_step) lCourse_pass_step cCourse_pass_step kCourse_pass_step
  have BCourse_pass_step := FCourse_pass_step.binds (ps := ["self", "flow"]) fun _ _ _ _ _ _ us hl => match us, hl with | [_, _], _ => rfl
  have FFlow_lets := fun_mk (st := sFlow_lets) lFlow_lets cFlow_lets kFlow_lets
  have BFlow_lets := FFlow_lets.binds (ps := ["self", "side"]) fun _ _ _ _ _ _ us hl => match us, hl with | [_, _], _ => rfl
  have FFlow_kept := fun_mk (st := sFlow_kept) lFlow_kept cFlow_kept kFlow_kept
  have BFlow_kept := FFlow_kept.binds (ps := ["self", "side"]) fun _ _ _ _ _ _ us hl => match us, hl with | [_, _], _ => rfl
  have FFlow_let_go := fun_mk (st := sFlow_let_go) lFlow_let_go cFlow_let_go kFlow_let_go
  have BFlow_let_go := FFlow_let_go.binds (ps := ["self", "side"]) fun _ _ _ _ _ _ us hl => match us, hl with | [_, _], _ => rfl
  have FFlow_put := fun_mk (st := sFlow_put) lFlow_put cFlow_put kFlow_put
  have BFlow_put := FFlow_put.binds (ps := ["self", "side", "amount"]) fun _ _ _ _ _ _ us hl => match us, hl with | [_, _, _], _ => rfl
  have FFlow_fresh := fun_mk (st := sFlow_fresh) lFlow_fresh cFlow_fresh kFlow_fresh
  have BFlow_fresh := FFlow_fresh.binds (ps := ["self", "side"]) fun _ _ _ _ _ _ us hl => match us, hl with | [_, _], _ => rfl
  have FCourse_rests := fun_mk (st := sCourse_rests) lCourse_rests cCourse_rests kCourse_rests
  have BCourse_rests := FCourse_rests.binds (ps := ["self", "flow", "ticks"]) fun _ _ _ _ _ _ us hl => match us, hl with | [_, _, _], _ => rfl
  have FCourse_do_step := fun_mk (st := sCourse_do_step) lCourse_do_step cCourse_do_step kCourse_do_step
  have BCourse_do_step := FCourse_do_step.binds (ps := ["self", "flow", "side"]) fun _ _ _ _ _ _ us hl => match us, hl with | [_, _, _], _ => rfl
  have FCourse_go_on := fun_mk (st := sCourse_go_on) lCourse_go_on cCourse_go_on kCourse_go_on
  have BCourse_go_on := FCourse_go_on.binds (ps := ["self", "flow", "side"]) fun _ _ _ _ _ _ us hl => match us, hl with | [_, _, _], _ => rfl
  have FFlow_land := fun_mk (st := sFlow_land) lFlow_land cFlow_land kFlow_land
  have BFlow_land := FFlow_land.binds (ps := ["self", "sender", "amount", "answered"]) fun _ _ _ _ _ _ us hl => match us, hl with | [_, _, _, _], _ => rfl
  have FFlow_begin := fun_mk (st := sFlow_begin) lFlow_begin cFlow_begin kFlow_begin
  have BFlow_begin := FFlow_begin.binds (ps := ["self", "tick"]) fun _ _ _ _ _ _ us hl => match us, hl with | [_, _], _ => rfl
  have Fdo_tick := fun_mk (st := sdo_tick) ldo_tick cdo_tick kdo_tick
  have Bdo_tick := Fdo_tick.binds (ps := ["flow", "courses", "tick"]) fun _ _ _ _ _ _ us hl => match us, hl with | [_, _, _], _ => rfl
  have Fplain_steps := fun_mk (st := splain_steps) lplain_steps cplain_steps kplain_steps
  have Bplain_steps := Fplain_steps.binds (ps := ["program", "x", "ticks"]) fun _ _ _ _ _ _ us hl => match us, hl with | [_, _, _], _ => rfl
  have FRun___init__ := fun_mk (st := sRun___init__) lRun___init__ cRun___init__ kRun___init__
  have BRun___init__ := FRun___init__.binds (ps := ["self", "flow", "courses"]) fun _ _ _ _ _ _ us hl => match us, hl with | [_, _, _], _ => rfl
  have FCourse___init__ := fun_mk (st := sCourse___init__) lCourse___init__ cCourse___init__ kCourse___init__
  have BCourse___init__ := FCourse___init__.binds (ps := ["self", "steps", "again"]) fun _ _ _ _ _ _ us hl => match us, hl with | [_, _, _], _ => rfl
  have FFlow___init__ := fun_mk (st := sFlow___init__) lFlow___init__ cFlow___init__ kFlow___init__
  have BFlow___init__ := FFlow___init__.binds (ps := ["self", "line"]) fun _ _ _ _ _ _ us hl => match us, hl with | [_, _], _ => rfl
  have Frun_of := fun_mk (st := srun_of) lrun_of crun_of krun_of
  have Brun_of := Frun_of.binds (ps := ["line", "one", "other", "x", "pauses"]) fun _ _ _ _ _ _ us hl => match us, hl with | [_, _, _, _, _], _ => rfl
  have Fis_integer := fun_mk (st := sis_integer) lis_integer cis_integer kis_integer
  have Bis_integer := Fis_integer.binds (ps := ["value"]) fun _ _ _ _ _ _ us hl => match us, hl with | [_], _ => rfl
  have Fis_between := fun_mk (st := sis_between) lis_between cis_between kis_between
  have Bis_between := Fis_between.binds (ps := ["value", "low", "high"]) fun _ _ _ _ _ _ us hl => match us, hl with | [_, _, _], _ => rfl
  have Fpause_steps := fun_mk (st := spause_steps) lpause_steps cpause_steps kpause_steps
  have Bpause_steps := Fpause_steps.binds (ps := ["one", "other"]) fun _ _ _ _ _ _ us hl => match us, hl with | [_, _], _ => rfl
  have Fcheck_pauses := fun_mk (st := scheck_pauses) lcheck_pauses ccheck_pauses kcheck_pauses
  have Bcheck_pauses := Fcheck_pauses.binds (ps := ["value", "one", "other"]) fun _ _ _ _ _ _ us hl => match us, hl with | [_, _, _], _ => rfl
  have Fis_size := fun_mk (st := sis_size) lis_size cis_size kis_size
  have Bis_size := Fis_size.binds (ps := ["value"]) fun _ _ _ _ _ _ us hl => match us, hl with | [_], _ => rfl
  have Fcheck_size := fun_mk (st := scheck_size) lcheck_size ccheck_size kcheck_size
  have Bcheck_size := Fcheck_size.binds (ps := ["value"]) fun _ _ _ _ _ _ us hl => match us, hl with | [_], _ => rfl
  have Fis_amount := fun_mk (st := sis_amount) lis_amount cis_amount kis_amount
  have Bis_amount := Fis_amount.binds (ps := ["value"]) fun _ _ _ _ _ _ us hl => match us, hl with | [_], _ => rfl
  have Fis_step := fun_mk (st := sis_step) lis_step cis_step kis_step
  have Bis_step := Fis_step.binds (ps := ["value"]) fun _ _ _ _ _ _ us hl => match us, hl with | [_], _ => rfl
  have Fcheck_program := fun_mk (st := scheck_program) lcheck_program ccheck_program kcheck_program
  have Bcheck_program := Fcheck_program.binds (ps := ["value"]) fun _ _ _ _ _ _ us hl => match us, hl with | [_], _ => rfl
  have Fcheck_line := fun_mk (st := scheck_line) lcheck_line ccheck_line kcheck_line
  have Bcheck_line := Fcheck_line.binds (ps := ["value"]) fun _ _ _ _ _ _ us hl => match us, hl with | [_], _ => rfl
  have Fcheck_run := fun_mk (st := scheck_run) lcheck_run ccheck_run kcheck_run
  have Bcheck_run := Fcheck_run.binds (ps := ["line", "one", "other"]) fun _ _ _ _ _ _ us hl => match us, hl with | [_, _, _], _ => rfl
  have Frun := fun_mk (st := srun) lrun crun krun
  have Brun : KBinds K _ ["line", "one", "other", "x", "pauses"] ["x", "pauses"] gK gK := kb_run Frun
  have Fcheck_setting := fun_mk (st := scheck_setting) lcheck_setting ccheck_setting kcheck_setting
  have Bcheck_setting := Fcheck_setting.binds (ps := ["value"]) fun _ _ _ _ _ _ us hl => match us, hl with | [_], _ => rfl
  have Fcheck_number := fun_mk (st := scheck_number) lcheck_number ccheck_number kcheck_number
  have Bcheck_number := Fcheck_number.binds (ps := ["value", "low", "high"]) fun _ _ _ _ _ _ us hl => match us, hl with | [_, _, _], _ => rfl
  have FLine___init__ := fun_mk (st := sLine___init__) lLine___init__ cLine___init__ kLine___init__
  have BLine___init__ := FLine___init__.binds (ps := ["self", "size", "way", "near", "far"]) fun _ _ _ _ _ _ us hl => match us, hl with | [_, _, _, _, _], _ => rfl
  have FSetting___init__ := fun_mk (st := sSetting___init__) lSetting___init__ cSetting___init__ kSetting___init__
  have BSetting___init__ := FSetting___init__.binds (ps := ["self", "rule", "every", "delay"]) fun _ _ _ _ _ _ us hl => match us, hl with | [_, _, _, _], _ => rfl
  have F_law_made := fun_mk (st := s_law_made) l_law_made c_law_made k_law_made
  have B_law_made := F_law_made.binds (ps := ["_law_told_here"]) fun _ _ _ _ _ _ us hl => match us, hl with | [_], _ => rfl
  have F_law_grain := fun_mk (st := s_law_grain) l_law_grain c_law_grain k_law_grain
  have B_law_grain := F_law_grain.binds (ps := ["_law_mill_here", "_law_many"]) fun _ _ _ _ _ _ us hl => match us, hl with | [_, _], _ => rfl
  have F_law_pick := fun_mk (st := s_law_pick) l_law_pick c_law_pick k_law_pick
  have B_law_pick := F_law_pick.binds (ps := ["_law_mill_here", "_law_things"]) fun _ _ _ _ _ _ us hl => match us, hl with | [_, _], _ => rfl
  have F_law_ways := fun_mk (st := s_law_ways) l_law_ways c_law_ways k_law_ways
  have B_law_ways := F_law_ways.binds (ps := ["_law_mill_here"]) fun _ _ _ _ _ _ us hl => match us, hl with | [_], _ => rfl
  have F_law_choice := fun_mk (st := s_law_choice) l_law_choice c_law_choice k_law_choice
  have B_law_choice := F_law_choice.binds (ps := ["_law_mill_here", "_law_plans_here"]) fun _ _ _ _ _ _ us hl => match us, hl with | [_, _], _ => rfl
  have F_law_amount := fun_mk (st := s_law_amount) l_law_amount c_law_amount k_law_amount
  have B_law_amount := F_law_amount.binds (ps := ["_law_mill_here", "_law_letter"]) fun _ _ _ _ _ _ us hl => match us, hl with | [_, _], _ => rfl
  have F_law_plans := fun_mk (st := s_law_plans) l_law_plans c_law_plans k_law_plans
  have B_law_plans := F_law_plans.binds (ps := ["_law_mill_here", "_law_letter"]) fun _ _ _ _ _ _ us hl => match us, hl with | [_, _], _ => rfl
  have F_law_told := fun_mk (st := s_law_told) l_law_told c_law_told k_law_told
  have B_law_told := F_law_told.binds (ps := ["_law_mill_here"]) fun _ _ _ _ _ _ us hl => match us, hl with | [_], _ => rfl
  have F_law_right := fun_mk (st := s_law_right) l_law_right c_law_right k_law_right
  have B_law_right := F_law_right.binds (ps := ["_law_mill_here"]) fun _ _ _ _ _ _ us hl => match us, hl with | [_], _ => rfl
  have F_law_mill := fun_mk (st := s_law_mill) l_law_mill c_law_mill k_law_mill
  have B_law_mill := F_law_mill.binds (ps := ["_law_script", "_law_k"]) fun _ _ _ _ _ _ us hl => match us, hl with | [_, _], _ => rfl
  have Flaw := fun_mk (st := slaw) llaw claw klaw
  refine ⟨PySem.W.fnOf "law" "law" (defArgs slaw) (defBody slaw) (defScope slaw) .none kVlaw dclaw pmlaw anlaw cdlaw ctlaw, [(cR, tab)], splaw K C, fun p hp => by rw [List.mem_singleton.mp hp]; exact hT, fun p hp => by rw [List.mem_singleton.mp hp]; exact t1, fun p hp => by rw [List.mem_singleton.mp hp]; exact PySem.W.codeHd_of_K KX t2,
    fun s v => .of_eq rfl, fun H a ns hl _ hC hS => ⟨a, ns, rfl, hS, hl, fun p hp => by rw [List.mem_singleton.mp hp]; exact TabS.nil (hC (cR, tab) (.head _)), fun _ => rfl⟩, fun base _ _ hB => ?_⟩
  have TB : TabB base mg cR tab := hB (cR, tab) (.head _)
  have MFlow_next_tick : MOk l.prog w K mg base cFlow "next_tick" 1 ["self"] (spFlow_next_tick K C) := ⟨_, _, okFlow_next_tick FFlow_next_tick T, BFlow_next_tick, ⟨iFlow_next_tick, nFlow_next_tick, kFlow_next_tick⟩⟩
  have Mevents : GOk l.prog w K mg base "events" 2 ["flow", "courses"] (spevents K C) := ⟨_, _, okevents Fevents T MFlow_next_tick, Bevents, PySem.W.mg_of KX G aevents, kevents⟩
  have MFlow_is_due : MOk l.prog w K mg base cFlow "is_due" 1 ["self", "side"] (spFlow_is_due K C) := ⟨_, _, okFlow_is_due FFlow_is_due T, BFlow_is_due, ⟨iFlow_is_due, nFlow_is_due, kFlow_is_due⟩⟩
  have MFlow_take_out : MOk l.prog w K mg base cFlow "take_out" 1 ["self", "side", "amount"] (spFlow_take_out K C) := ⟨_, _, okFlow_take_out FFlow_take_out T, BFlow_take_out, ⟨iFlow_take_out, nFlow_take_out, kFlow_take_out⟩⟩
  have MFlow_send : MOk l.prog w K mg base cFlow "send" 2 ["self", "side", "amount"] (spFlow_send K C) := ⟨_, _, okFlow_send FFlow_send T MFlow_take_out, BFlow_send, ⟨iFlow_send, nFlow_send, kFlow_send⟩⟩
  have MFlow_leave : MOk l.prog w K mg base cFlow "leave" 3 ["self"] (spFlow_leave K C) := ⟨_, _, okFlow_leave FFlow_leave T MFlow_is_due MFlow_send, BFlow_leave, ⟨iFlow_leave, nFlow_leave, kFlow_leave⟩⟩
  have MCourse_pass_step : MOk l.prog w K mg base cCourse "pass_step" 1 ["self", "flow"] (spCourse_pass_step K C) := ⟨_, _, okCourse_pass_step FCourse_pass_step T, BCourse_pass_step, ⟨iCourse_pass_step, nCourse_pass_step, kCourse_pass_step⟩⟩
  have MFlow_lets : MOk l.prog w K mg base cFlow "lets" 1 ["self", "side"] (spFlow_lets K C) := ⟨_, _, okFlow_lets FFlow_lets T, BFlow_lets, ⟨iFlow_lets, nFlow_lets, kFlow_lets⟩⟩
  have MFlow_kept : MOk l.prog w K mg base cFlow "kept" 1 ["self", "side"] (spFlow_kept K C) := ⟨_, _, okFlow_kept FFlow_kept T, BFlow_kept, ⟨iFlow_kept, nFlow_kept, kFlow_kept⟩⟩
  have MFlow_let_go : MOk l.prog w K mg base cFlow "let_go" 3 ["self", "side"] (spFlow_let_go K C) := ⟨_, _, okFlow_let_go FFlow_let_go T MFlow_lets MFlow_send MFlow_kept, BFlow_let_go, ⟨iFlow_let_go, nFlow_let_go, kFlow_let_go⟩⟩
  have MFlow_put : MOk l.prog w K mg base cFlow "put" 4 ["self", "side", "amount"] (spFlow_put K C) := ⟨_, _, okFlow_put FFlow_put T MFlow_let_go, BFlow_put, ⟨iFlow_put, nFlow_put, kFlow_put⟩⟩
  have MFlow_fresh : MOk l.prog w K mg base cFlow "fresh" 1 ["self", "side"] (spFlow_fresh K C) := ⟨_, _, okFlow_fresh FFlow_fresh T, BFlow_fresh, ⟨iFlow_fresh, nFlow_fresh, kFlow_fresh⟩⟩
  have MCourse_rests : MOk l.prog w K mg base cCourse "rests" 1 ["self", "flow", "ticks"] (spCourse_rests K C) := ⟨_, _, okCourse_rests FCourse_rests T, BCourse_rests, ⟨iCourse_rests, nCourse_rests, kCourse_rests⟩⟩
  have MCourse_do_step : MOk l.prog w K mg base cCourse "do_step" 5 ["self", "flow", "side"] (spCourse_do_step K C) := ⟨_, _, okCourse_do_step FCourse_do_step T MCourse_pass_step MFlow_put MFlow_fresh MCourse_rests, BCourse_do_step, ⟨iCourse_do_step, nCourse_do_step, kCourse_do_step⟩⟩
  have MCourse_go_on : MOk l.prog w K mg base cCourse "go_on" 6 ["self", "flow", "side"] (spCourse_go_on K C) := ⟨_, _, okCourse_go_on FCourse_go_on T MCourse_do_step, BCourse_go_on, ⟨iCourse_go_on, nCourse_go_on, kCourse_go_on⟩⟩
  have MFlow_land : MOk l.prog w K mg base cFlow "land" 1 ["self", "sender", "amount", "answered"] (spFlow_land K C) := ⟨_, _, okFlow_land FFlow_land T, BFlow_land, ⟨iFlow_land, nFlow_land, kFlow_land⟩⟩
  have MFlow_begin : MOk l.prog w K mg base cFlow "begin" 4 ["self", "tick"] (spFlow_begin K C) := ⟨_, _, okFlow_begin FFlow_begin T MFlow_let_go MFlow_land, BFlow_begin, ⟨iFlow_begin, nFlow_begin, kFlow_begin⟩⟩
  have Mdo_tick : GOk l.prog w K mg base "do_tick" 7 ["flow", "courses", "tick"] (spdo_tick K C) := ⟨_, _, okdo_tick Fdo_tick T MFlow_leave MCourse_go_on MFlow_begin, Bdo_tick, PySem.W.mg_of KX G ado_tick, kdo_tick⟩
  have Mplain_steps : GOk l.prog w K mg base "plain_steps" 1 ["program", "x", "ticks"] (spplain_steps K C) := ⟨_, _, okplain_steps Fplain_steps T, Bplain_steps, PySem.W.mg_of KX G aplain_steps, kplain_steps⟩
  have MRun___init__ : IOk l.prog w K mg base cRun 2 ["self", "flow", "courses"] (spRun___init__ K C) := ⟨_, _, okRun___init__ (FunC.mk ⟨_, _, _, _, _, _, _, _, rfl, lRun___init__, cRun___init__⟩) T TB MFlow_fresh, BRun___init__, ⟨wRun___init__, iRun___init__, nRun___init__, qRun___init__⟩⟩
  have MCourse___init__ : IOk l.prog w K mg base cCourse 1 ["self", "steps", "again"] (spCourse___init__ K C) := ⟨_, _, okCourse___init__ FCourse___init__ T, BCourse___init__, ⟨wCourse___init__, iCourse___init__, nCourse___init__, qCourse___init__⟩⟩
  have MFlow___init__ : IOk l.prog w K mg base cFlow 1 ["self", "line"] (spFlow___init__ K C) := ⟨_, _, okFlow___init__ FFlow___init__ T, BFlow___init__, ⟨wFlow___init__, iFlow___init__, nFlow___init__, qFlow___init__⟩⟩
  have Mrun_of : GOk l.prog w K mg base "run_of" 8 ["line", "one", "other", "x", "pauses"] (sprun_of K C) := ⟨_, _, okrun_of Frun_of T Mevents Mdo_tick Mplain_steps MRun___init__ MCourse___init__ MFlow___init__, Brun_of, PySem.W.mg_of KX G arun_of, krun_of⟩
  have Mis_integer : GOk l.prog w K mg base "is_integer" 1 ["value"] (spis_integer K C) := ⟨_, _, okis_integer Fis_integer T, Bis_integer, PySem.W.mg_of KX G ais_integer, kis_integer⟩
  have Mis_between : GOk l.prog w K mg base "is_between" 2 ["value", "low", "high"] (spis_between K C) := ⟨_, _, okis_between Fis_between T Mis_integer, Bis_between, PySem.W.mg_of KX G ais_between, kis_between⟩
  have Mpause_steps : GOk l.prog w K mg base "pause_steps" 1 ["one", "other"] (sppause_steps K C) := ⟨_, _, okpause_steps Fpause_steps T, Bpause_steps, PySem.W.mg_of KX G apause_steps, kpause_steps⟩
  have Mcheck_pauses : GOk l.prog w K mg base "check_pauses" 3 ["value", "one", "other"] (spcheck_pauses K C) := ⟨_, _, okcheck_pauses Fcheck_pauses T Mis_between Mpause_steps, Bcheck_pauses, PySem.W.mg_of KX G acheck_pauses, kcheck_pauses⟩
  have Mis_size : GOk l.prog w K mg base "is_size" 3 ["value"] (spis_size K C) := ⟨_, _, okis_size Fis_size T Mis_between, Bis_size, PySem.W.mg_of KX G ais_size, kis_size⟩
  have Mcheck_size : GOk l.prog w K mg base "check_size" 4 ["value"] (spcheck_size K C) := ⟨_, _, okcheck_size Fcheck_size T Mis_size, Bcheck_size, PySem.W.mg_of KX G acheck_size, kcheck_size⟩
  have Mis_amount : GOk l.prog w K mg base "is_amount" 3 ["value"] (spis_amount K C) := ⟨_, _, okis_amount Fis_amount T Mis_between, Bis_amount, PySem.W.mg_of KX G ais_amount, kis_amount⟩
  have Mis_step : GOk l.prog w K mg base "is_step" 4 ["value"] (spis_step K C) := ⟨_, _, okis_step Fis_step T Mis_amount Mis_between, Bis_step, PySem.W.mg_of KX G ais_step, kis_step⟩
  have Mcheck_program : GOk l.prog w K mg base "check_program" 5 ["value"] (spcheck_program K C) := ⟨_, _, okcheck_program Fcheck_program T Mis_step, Bcheck_program, PySem.W.mg_of KX G acheck_program, kcheck_program⟩
  have Mcheck_line : GOk l.prog w K mg base "check_line" 1 ["value"] (spcheck_line K C) := ⟨_, _, okcheck_line Fcheck_line T, Bcheck_line, PySem.W.mg_of KX G acheck_line, kcheck_line⟩
  have Mcheck_run : GOk l.prog w K mg base "check_run" 6 ["line", "one", "other"] (spcheck_run K C) := ⟨_, _, okcheck_run Fcheck_run T Mcheck_program Mcheck_line, Bcheck_run, PySem.W.mg_of KX G acheck_run, kcheck_run⟩
  have Mrun : KOk l.prog w K mg base "run" 9 ["line", "one", "other", "x", "pauses"] ["x", "pauses"] (sprun K C) := ⟨_, _, okrun Frun T Mrun_of Mcheck_pauses Mcheck_size Mcheck_run, Brun, PySem.W.mg_of KX G arun, krun⟩
  have Mcheck_setting : GOk l.prog w K mg base "check_setting" 1 ["value"] (spcheck_setting K C) := ⟨_, _, okcheck_setting Fcheck_setting T, Bcheck_setting, PySem.W.mg_of KX G acheck_setting, kcheck_setting⟩
  have Mcheck_number : GOk l.prog w K mg base "check_number" 3 ["value", "low", "high"] (spcheck_number K C) := ⟨_, _, okcheck_number Fcheck_number T Mis_between, Bcheck_number, PySem.W.mg_of KX G acheck_number, kcheck_number⟩
  have MLine___init__ : IOk l.prog w K mg base cLine 4 ["self", "size", "way", "near", "far"] (spLine___init__ K C) := ⟨_, _, okLine___init__ FLine___init__ T Mcheck_setting Mcheck_number, BLine___init__, ⟨wLine___init__, iLine___init__, nLine___init__, qLine___init__⟩⟩
  have MSetting___init__ : IOk l.prog w K mg base cSetting 4 ["self", "rule", "every", "delay"] (spSetting___init__ K C) := ⟨_, _, okSetting___init__ FSetting___init__ T Mcheck_number, BSetting___init__, ⟨wSetting___init__, iSetting___init__, nSetting___init__, qSetting___init__⟩⟩
  have M_law_made : GOk l.prog w K mg base "_law_made" 6 ["_law_told_here"] (sp_law_made K C) := ⟨_, _, ok_law_made F_law_made T MLine___init__ MSetting___init__, B_law_made, PySem.W.mg_of KX G a_law_made, k_law_made⟩
  have M_law_grain : GOk l.prog w K mg base "_law_grain" 1 ["_law_mill_here", "_law_many"] (sp_law_grain K C) := ⟨_, _, ok_law_grain F_law_grain T, B_law_grain, PySem.W.mg_of KX G a_law_grain, k_law_grain⟩
  have M_law_pick : GOk l.prog w K mg base "_law_pick" 2 ["_law_mill_here", "_law_things"] (sp_law_pick K C) := ⟨_, _, ok_law_pick F_law_pick T M_law_grain, B_law_pick, PySem.W.mg_of KX G a_law_pick, k_law_pick⟩
  have M_law_ways : GOk l.prog w K mg base "_law_ways" 3 ["_law_mill_here"] (sp_law_ways K C) := ⟨_, _, ok_law_ways F_law_ways T M_law_pick M_law_grain, B_law_ways, PySem.W.mg_of KX G a_law_ways, k_law_ways⟩
  have M_law_choice : GOk l.prog w K mg base "_law_choice" 2 ["_law_mill_here", "_law_plans_here"] (sp_law_choice K C) := ⟨_, _, ok_law_choice F_law_choice T M_law_grain, B_law_choice, PySem.W.mg_of KX G a_law_choice, k_law_choice⟩
  have M_law_amount : GOk l.prog w K mg base "_law_amount" 3 ["_law_mill_here", "_law_letter"] (sp_law_amount K C) := ⟨_, _, ok_law_amount F_law_amount T M_law_grain M_law_pick, B_law_amount, PySem.W.mg_of KX G a_law_amount, k_law_amount⟩
  have M_law_plans : GOk l.prog w K mg base "_law_plans" 4 ["_law_mill_here", "_law_letter"] (sp_law_plans K C) := ⟨_, _, ok_law_plans F_law_plans T M_law_grain M_law_amount, B_law_plans, PySem.W.mg_of KX G a_law_plans, k_law_plans⟩
  have M_law_told : GOk l.prog w K mg base "_law_told" 4 ["_law_mill_here"] (sp_law_told K C) := ⟨_, _, ok_law_told F_law_told T M_law_ways M_law_pick M_law_grain, B_law_told, PySem.W.mg_of KX G a_law_told, k_law_told⟩
  have M_law_right : GOk l.prog w K mg base "_law_right" 10 ["_law_mill_here"] (sp_law_right K C) := ⟨_, _, ok_law_right F_law_right T Mrun M_law_made M_law_ways M_law_grain M_law_pick M_law_choice M_law_plans M_law_told, B_law_right, PySem.W.mg_of KX G a_law_right, k_law_right⟩
  have M_law_mill : GOk l.prog w K mg base "_law_mill" 1 ["_law_script", "_law_k"] (sp_law_mill K C) := ⟨_, _, ok_law_mill F_law_mill T, B_law_mill, PySem.W.mg_of KX G a_law_mill, k_law_mill⟩
  exact oklaw Flaw T M_law_right M_law_mill
end Sh

open PySem PySem.W PyProof.Rows in
set_option maxRecDepth 100000 in
set_option maxHeartbeats 0 in
theorem PySem.Challenge.cw_smallheld_k12_whole_plain_and_bounds_of_holds : PySem.Challenge.rw_smallheld_k12_whole_plain_and_bounds_of.Holds := by
  w_on; o_law; k_head; (case hw => w_witness2)
  k_fill
  refine LamX.walk_ofTs (l := PySem.Challenge.rw_smallheld_k12_whole_plain_and_bounds_of) (n := 63) (k := 11) (x := "_law_script") (CX := fun _ => L2.CX0) rfl (by decide) rfl ⟨rfl, by decide, by decide⟩ (fun w h Y => PySem.W.km_in_of Y) ?F fun _ _ _ _ _ z => z
  case F =>
    intro w mg fa h Y KX G hmg
    refine' Sh.all_mk (l := PySem.Challenge.rw_smallheld_k12_whole_plain_and_bounds_of) (w := w) KX G hmg (PySem.W.km_tabs_of Y _ (.head _)) ?mFlow ?mCourse ?mSetting ?mLine ?mRun ?aevents ?levents ?cevents ?kevents ?ado_tick ?ldo_tick ?cdo_tick ?kdo_tick ?ais_integer ?lis_integer ?cis_integer ?kis_integer ?ais_between ?lis_between ?cis_between ?kis_between ?acheck_number ?lcheck_number ?ccheck_number ?kcheck_number ?acheck_setting ?lcheck_setting ?ccheck_setting ?kcheck_setting ?acheck_line ?lcheck_line ?ccheck_line ?kcheck_line ?ais_amount ?lis_amount ?cis_amount ?kis_amount ?ais_step ?lis_step ?cis_step ?kis_step ?acheck_program ?lcheck_program ?ccheck_program ?kcheck_program ?ais_size ?lis_size ?cis_size ?kis_size ?acheck_size ?lcheck_size ?ccheck_size ?kcheck_size ?apause_steps ?lpause_steps ?cpause_steps ?kpause_steps ?acheck_pauses ?lcheck_pauses ?ccheck_pauses ?kcheck_pauses ?aplain_steps ?lplain_steps ?cplain_steps ?kplain_steps ?arun_of ?lrun_of ?crun_of ?krun_of ?acheck_run ?lcheck_run ?ccheck_run ?kcheck_run ?arun ?lrun ?crun ?krun ?a_law_mill ?l_law_mill ?c_law_mill ?k_law_mill ?a_law_grain ?l_law_grain ?c_law_grain ?k_law_grain ?a_law_pick ?l_law_pick ?c_law_pick ?k_law_pick ?a_law_ways ?l_law_ways ?c_law_ways ?k_law_ways ?a_law_told ?l_law_told ?c_law_told ?k_law_told ?a_law_made ?l_law_made ?c_law_made ?k_law_made ?a_law_amount ?l_law_amount ?c_law_amount ?k_law_amount ?a_law_plans ?l_law_plans ?c_law_plans ?k_law_plans ?a_law_choice ?l_law_choice ?c_law_choice ?k_law_choice ?a_law_right ?l_law_right ?c_law_right ?k_law_right ?alaw ?llaw ?claw ?klaw ?iFlow_kept ?lFlow_kept ?cFlow_kept ?kFlow_kept ?nFlow_kept ?iFlow_fresh ?lFlow_fresh ?cFlow_fresh ?kFlow_fresh ?nFlow_fresh ?iFlow_take_out ?lFlow_take_out ?cFlow_take_out ?kFlow_take_out ?nFlow_take_out ?iFlow_send ?lFlow_send ?cFlow_send ?kFlow_send ?nFlow_send ?iFlow_lets ?lFlow_lets ?cFlow_lets ?kFlow_lets ?nFlow_lets ?iFlow_let_go ?lFlow_let_go ?cFlow_let_go ?kFlow_let_go ?nFlow_let_go ?iFlow_put ?lFlow_put ?cFlow_put ?kFlow_put ?nFlow_put ?iFlow_land ?lFlow_land ?cFlow_land ?kFlow_land ?nFlow_land ?iFlow_begin ?lFlow_begin ?cFlow_begin ?kFlow_begin ?nFlow_begin ?iFlow_is_due ?lFlow_is_due ?cFlow_is_due ?kFlow_is_due ?nFlow_is_due ?iFlow_leave ?lFlow_leave ?cFlow_leave ?kFlow_leave ?nFlow_leave ?iFlow_next_tick ?lFlow_next_tick ?cFlow_next_tick ?kFlow_next_tick ?nFlow_next_tick ?iCourse_pass_step ?lCourse_pass_step ?cCourse_pass_step ?kCourse_pass_step ?nCourse_pass_step ?iCourse_rests ?lCourse_rests ?cCourse_rests ?kCourse_rests ?nCourse_rests ?iCourse_do_step ?lCourse_do_step ?cCourse_do_step ?kCourse_do_step ?nCourse_do_step ?iCourse_go_on ?lCourse_go_on ?cCourse_go_on ?kCourse_go_on ?nCourse_go_on ?iFlow___init__ ?lFlow___init__ ?cFlow___init__ ?kFlow___init__ ?nFlow___init__ ?wFlow___init__ ?qFlow___init__ ?iCourse___init__ ?lCourse___init__ ?cCourse___init__ ?kCourse___init__ ?nCourse___init__ ?wCourse___init__ ?qCourse___init__ ?iSetting___init__ ?lSetting___init__ ?cSetting___init__ ?kSetting___init__ ?nSetting___init__ ?wSetting___init__ ?qSetting___init__ ?iLine___init__ ?lLine___init__ ?cLine___init__ ?kLine___init__ ?nLine___init__ ?wLine___init__ ?qLine___init__ ?iRun___init__ ?lRun___init__ ?cRun___init__ ?kRun___init__ ?nRun___init__ ?wRun___init__ ?qRun___init__ ?p1Flow ?p2Flow ?p3Flow ?p4Flow ?xFlow_line ?xFlow_settings ?xFlow_tick ?xFlow_stock ?xFlow_out ?xFlow_known ?xFlow_small ?xFlow_come ?xFlow_taken ?xFlow_full ?xFlow_first ?xFlow_long ?xFlow_flight ?xFlow_log ?p1Course ?p2Course ?p3Course ?p4Course ?xCourse_steps ?xCourse_again ?xCourse_place ?xCourse_until ?xCourse_ended ?xCourse_begun ?p1Setting ?p2Setting ?p3Setting ?p4Setting ?xSetting_rule ?xSetting_every ?xSetting_delay ?xSetting_told ?p1Line ?p2Line ?p3Line ?p4Line ?xLine_size ?xLine_way ?xLine_near ?xLine_far ?xLine_told ?p1Run ?p2Run ?p3Run ?p4Run ?xRun_ends ?xRun_stuck ?xRun_pieces ?xRun_answers ?xRun_held ?xRun_unread ?xRun_quiet ?xRun_all ?y1 ?y2 ?y3Setting ?y4Setting ?y3Line ?y4Line ?gMOST_SIZE ?hMOST_SIZE ?gMOST_WAY ?hMOST_WAY ?gMOST_EVERY ?hMOST_EVERY ?gMOST_DELAY ?hMOST_DELAY ?gMOST_STEPS ?hMOST_STEPS ?gMOST_BYTES ?hMOST_BYTES ?gMOST_X ?hMOST_X ?gLETTER ?hLETTER ?gRULES ?r1 ?r2 ?r3 ?r4 ?r5 ?zlen ?zsum ?zmax ?zmin ?zabs ?zdivmod ?zall ?zisinstance ?zint ?zbool ?zstr ?ztuple ?zlist ?zrange ?zzip ?zenumerate ?zsorted ?t1 ?t2
    (case mFlow => k_is)
    (case mCourse => k_is)
    (case mSetting => k_is)
    (case mLine => k_is)
    (case mRun => k_is)
    (case aevents => k_is)
    (case levents => k_is)
    (case cevents => k_is)
    (case kevents => k_is)
    (case ado_tick => k_is)
    (case ldo_tick => k_is)
    (case cdo_tick => k_is)
    (case kdo_tick => k_is)
    (case ais_integer => k_is)
    (case lis_integer => k_is)
    (case cis_integer => k_is)
    (case kis_integer => k_is)
    (case ais_between => k_is)
    (case lis_between => k_is)
    (case cis_between => k_is)
    (case kis_between => k_is)
    (case acheck_number => k_is)
    (case lcheck_number => k_is)
    (case ccheck_number => k_is)
    (case kcheck_number => k_is)
    (case acheck_setting => k_is)
    (case lcheck_setting => k_is)
    (case ccheck_setting => k_is)
    (case kcheck_setting => k_is)
    (case acheck_line => k_is)
    (case lcheck_line => k_is)
    (case ccheck_line => k_is)
    (case kcheck_line => k_is)
    (case ais_amount => k_is)
    (case lis_amount => k_is)
    (case cis_amount => k_is)
    (case kis_amount => k_is)
    (case ais_step => k_is)
    (case lis_step => k_is)
    (case cis_step => k_is)
    (case kis_step => k_is)
    (case acheck_program => k_is)
    (case lcheck_program => k_is)
    (case ccheck_program => k_is)
    (case kcheck_program => k_is)
    (case ais_size => k_is)
    (case lis_size => k_is)
    (case cis_size => k_is)
    (case kis_size => k_is)
    (case acheck_size => k_is)
    (case lcheck_size => k_is)
    (case ccheck_size => k_is)
    (case kcheck_size => k_is)
    (case apause_steps => k_is)
    (case lpause_steps => k_is)
    (case cpause_steps => k_is)
    (case kpause_steps => k_is)
    (case acheck_pauses => k_is)
    (case lcheck_pauses => k_is)
    (case ccheck_pauses => k_is)
    (case kcheck_pauses => k_is)
    (case aplain_steps => k_is)
    (case lplain_steps => k_is)
    (case cplain_steps => k_is)
    (case kplain_steps => k_is)
    (case arun_of => k_is)
    (case lrun_of => k_is)
    (case crun_of => k_is)
    (case krun_of => k_is)
    (case acheck_run => k_is)
    (case lcheck_run => k_is)
    (case ccheck_run => k_is)
    (case kcheck_run => k_is)
    (case arun => k_is)
    (case lrun => k_is)
    (case crun => k_is)
    (case krun => k_is)
    (case a_law_mill => k_is)
    (case l_law_mill => k_is)
    (case c_law_mill => k_is)
    (case k_law_mill => k_is)
    (case a_law_grain => k_is)
    (case l_law_grain => k_is)
    (case c_law_grain => k_is)
    (case k_law_grain => k_is)
    (case a_law_pick => k_is)
    (case l_law_pick => k_is)
    (case c_law_pick => k_is)
    (case k_law_pick => k_is)
    (case a_law_ways => k_is)
    (case l_law_ways => k_is)
    (case c_law_ways => k_is)
    (case k_law_ways => k_is)
    (case a_law_told => k_is)
    (case l_law_told => k_is)
    (case c_law_told => k_is)
    (case k_law_told => k_is)
    (case a_law_made => k_is)
    (case l_law_made => k_is)
    (case c_law_made => k_is)
    (case k_law_made => k_is)
    (case a_law_amount => k_is)
    (case l_law_amount => k_is)
    (case c_law_amount => k_is)
    (case k_law_amount => k_is)
    (case a_law_plans => k_is)
    (case l_law_plans => k_is)
    (case c_law_plans => k_is)
    (case k_law_plans => k_is)
    (case a_law_choice => k_is)
    (case l_law_choice => k_is)
    (case c_law_choice => k_is)
    (case k_law_choice => k_is)
    (case a_law_right => k_is)
    (case l_law_right => k_is)
    (case c_law_right => k_is)
    (case k_law_right => k_is)
    (case alaw => k_is)
    (case llaw => k_is)
    (case claw => k_is)
    (case klaw => k_is)
    (case iFlow_kept => k_is)
    (case lFlow_kept => k_is)
    (case cFlow_kept => k_is)
    (case kFlow_kept => k_is)
    (case nFlow_kept => k_is)
    (case iFlow_fresh => k_is)
    (case lFlow_fresh => k_is)
    (case cFlow_fresh => k_is)
    (case kFlow_fresh => k_is)
    (case nFlow_fresh => k_is)
    (case iFlow_take_out => k_is)
    (case lFlow_take_out => k_is)
    (case cFlow_take_out => k_is)
    (case kFlow_take_out => k_is)
    (case nFlow_take_out => k_is)
    (case iFlow_send => k_is)
    (case lFlow_send => k_is)
    (case cFlow_send => k_is)
    (case kFlow_send => k_is)
    (case nFlow_send => k_is)
    (case iFlow_lets => k_is)
    (case lFlow_lets => k_is)
    (case cFlow_lets => k_is)
    (case kFlow_lets => k_is)
    (case nFlow_lets => k_is)
    (case iFlow_let_go => k_is)
    (case lFlow_let_go => k_is)
    (case cFlow_let_go => k_is)
    (case kFlow_let_go => k_is)
    (case nFlow_let_go => k_is)
    (case iFlow_put => k_is)
    (case lFlow_put => k_is)
    (case cFlow_put => k_is)
    (case kFlow_put => k_is)
    (case nFlow_put => k_is)
    (case iFlow_land => k_is)
    (case lFlow_land => k_is)
    (case cFlow_land => k_is)
    (case kFlow_land => k_is)
    (case nFlow_land => k_is)
    (case iFlow_begin => k_is)
    (case lFlow_begin => k_is)
    (case cFlow_begin => k_is)
    (case kFlow_begin => k_is)
    (case nFlow_begin => k_is)
    (case iFlow_is_due => k_is)
    (case lFlow_is_due => k_is)
    (case cFlow_is_due => k_is)
    (case kFlow_is_due => k_is)
    (case nFlow_is_due => k_is)
    (case iFlow_leave => k_is)
    (case lFlow_leave => k_is)
    (case cFlow_leave => k_is)
    (case kFlow_leave => k_is)
    (case nFlow_leave => k_is)
    (case iFlow_next_tick => k_is)
    (case lFlow_next_tick => k_is)
    (case cFlow_next_tick => k_is)
    (case kFlow_next_tick => k_is)
    (case nFlow_next_tick => k_is)
    (case iCourse_pass_step => k_is)
    (case lCourse_pass_step => k_is)
    (case cCourse_pass_step => k_is)
    (case kCourse_pass_step => k_is)
    (case nCourse_pass_step => k_is)
    (case iCourse_rests => k_is)
    (case lCourse_rests => k_is)
    (case cCourse_rests => k_is)
    (case kCourse_rests => k_is)
    (case nCourse_rests => k_is)
    (case iCourse_do_step => k_is)
    (case lCourse_do_step => k_is)
    (case cCourse_do_step => k_is)
    (case kCourse_do_step => k_is)
    (case nCourse_do_step => k_is)
    (case iCourse_go_on => k_is)
    (case lCourse_go_on => k_is)
    (case cCourse_go_on => k_is)
    (case kCourse_go_on => k_is)
    (case nCourse_go_on => k_is)
    (case iFlow___init__ => k_is)
    (case lFlow___init__ => k_is)
    (case cFlow___init__ => k_is)
    (case kFlow___init__ => k_is)
    (case nFlow___init__ => k_is)
    (case wFlow___init__ => k_is)
    (case qFlow___init__ => k_is)
    (case iCourse___init__ => k_is)
    (case lCourse___init__ => k_is)
    (case cCourse___init__ => k_is)
    (case kCourse___init__ => k_is)
    (case nCourse___init__ => k_is)
    (case wCourse___init__ => k_is)
    (case qCourse___init__ => k_is)
    (case iSetting___init__ => k_is)
    (case lSetting___init__ => k_is)
    (case cSetting___init__ => k_is)
    (case kSetting___init__ => k_is)
    (case nSetting___init__ => k_is)
    (case wSetting___init__ => k_is)
    (case qSetting___init__ => k_is)
    (case iLine___init__ => k_is)
    (case lLine___init__ => k_is)
    (case cLine___init__ => k_is)
    (case kLine___init__ => k_is)
    (case nLine___init__ => k_is)
    (case wLine___init__ => k_is)
    (case qLine___init__ => k_is)
    (case iRun___init__ => k_is)
    (case lRun___init__ => k_is)
    (case cRun___init__ => k_is)
    (case kRun___init__ => k_is)
    (case nRun___init__ => k_is)
    (case wRun___init__ => k_is)
    (case qRun___init__ => k_is)
    (case p1Flow => k_is)
    (case p2Flow => k_is)
    (case p3Flow => k_is)
    (case p4Flow => k_is)
    (case xFlow_line => k_is)
    (case xFlow_settings => k_is)
    (case xFlow_tick => k_is)
    (case xFlow_stock => k_is)
    (case xFlow_out => k_is)
    (case xFlow_known => k_is)
    (case xFlow_small => k_is)
    (case xFlow_come => k_is)
    (case xFlow_taken => k_is)
    (case xFlow_full => k_is)
    (case xFlow_first => k_is)
    (case xFlow_long => k_is)
    (case xFlow_flight => k_is)
    (case xFlow_log => k_is)
    (case p1Course => k_is)
    (case p2Course => k_is)
    (case p3Course => k_is)
    (case p4Course => k_is)
    (case xCourse_steps => k_is)
    (case xCourse_again => k_is)
    (case xCourse_place => k_is)
    (case xCourse_until => k_is)
    (case xCourse_ended => k_is)
    (case xCourse_begun => k_is)
    (case p1Setting => k_is)
    (case p2Setting => k_is)
    (case p3Setting => k_is)
    (case p4Setting => k_is)
    (case xSetting_rule => k_is)
    (case xSetting_every => k_is)
    (case xSetting_delay => k_is)
    (case xSetting_told => k_is)
    (case p1Line => k_is)
    (case p2Line => k_is)
    (case p3Line => k_is)
    (case p4Line => k_is)
    (case xLine_size => k_is)
    (case xLine_way => k_is)
    (case xLine_near => k_is)
    (case xLine_far => k_is)
    (case xLine_told => k_is)
    (case p1Run => k_is)
    (case p2Run => k_is)
    (case p3Run => k_is)
    (case p4Run => k_is)
    (case xRun_ends => k_is)
    (case xRun_stuck => k_is)
    (case xRun_pieces => k_is)
    (case xRun_answers => k_is)
    (case xRun_held => k_is)
    (case xRun_unread => k_is)
    (case xRun_quiet => k_is)
    (case xRun_all => k_is)
    (case y1 => k_is)
    (case y2 => k_is)
    (case y3Setting => k_is)
    (case y4Setting => k_is)
    (case y3Line => k_is)
    (case y4Line => k_is)
    (case gMOST_SIZE => k_is)
    (case hMOST_SIZE => exact ⟨_, rfl⟩)
    (case gMOST_WAY => k_is)
    (case hMOST_WAY => exact ⟨_, rfl⟩)
    (case gMOST_EVERY => k_is)
    (case hMOST_EVERY => exact ⟨_, rfl⟩)
    (case gMOST_DELAY => k_is)
    (case hMOST_DELAY => exact ⟨_, rfl⟩)
    (case gMOST_STEPS => k_is)
    (case hMOST_STEPS => exact ⟨_, rfl⟩)
    (case gMOST_BYTES => k_is)
    (case hMOST_BYTES => exact ⟨_, rfl⟩)
    (case gMOST_X => k_is)
    (case hMOST_X => exact ⟨_, rfl⟩)
    (case gLETTER => k_is)
    (case hLETTER => exact ⟨_, rfl⟩)
    (case gRULES => k_is)
    (case r1 => k_is)
    (case r2 => rfl)
    (case r3 => rfl)
    (case r4 => decide)
    (case r5 => exact .cons ⟨_, rfl⟩ (.cons ⟨_, rfl⟩ (.cons ⟨_, rfl⟩ .nil)))
    (case zlen => k_is)
    (case zsum => k_is)
    (case zmax => k_is)
    (case zmin => k_is)
    (case zabs => k_is)
    (case zdivmod => k_is)
    (case zall => k_is)
    (case zisinstance => k_is)
    (case zint => k_is)
    (case zbool => k_is)
    (case zstr => k_is)
    (case ztuple => k_is)
    (case zlist => k_is)
    (case zrange => k_is)
    (case zzip => k_is)
    (case zenumerate => k_is)
    (case zsorted => k_is)
    (case t1 => first | rfl | decide +kernel | k_is)
    (case t2 => first | rfl | decide +kernel | k_is)


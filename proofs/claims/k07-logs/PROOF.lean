import PyProof.Rows.All
import Wide.All
import OpenK.AllK
import Wide.FinOn
import HandS.ForMost
import HandS.TupAny
import HandS.IsInst
import HandS.Zip
import HandS.Deep
import HandS.Conv
import HandS.Walk
import HandS.Codes
import KE.GoesEnum
import KE.GoesNew
import PySem.Challenge.RW_scribehall_k07_whole_logs_that_match
set_option Elab.async false
set_option linter.all false
set_option maxRecDepth 100000
set_option maxHeartbeats 4000000
namespace K7

/-! ### logs and heads in plain Lean: no program in sight -/
inductive Deed (α : Type) where
  | blank
  | mem (ns : List Int)
  | call (a : α)

abbrev Row (α : Type) := Nat × Deed α

section
variable {α : Type}

/-- the members behind some rows -/
def memb (M : List Int) : List (Row α) → List Int
  | [] => M
  | (_, .mem ns) :: r => memb ns r
  | (_, .blank) :: r => memb M r
  | (_, .call _) :: r => memb M r

theorem memb_append : ∀ (M : List Int) (a b : List (Row α)), memb M (a ++ b) = memb (memb M a) b
  | _, [], _ => rfl
  | _, (_, .mem ns) :: r, b => memb_append ns r b
  | M, (_, .blank) :: r, b => memb_append M r b
  | M, (_, .call _) :: r, b => memb_append M r b

structure Lg (α : Type) where
  P : Nat
  R : Nat
  M : List Int
  T : Bool
  rows : List (Row α)

namespace Lg
def last (L : Lg α) : Nat := L.P + L.rows.length
def hasRow (L : Lg α) (p : Nat) : Bool := decide (L.P + 1 ≤ p ∧ p ≤ L.last)
def reignAt (L : Lg α) (p : Nat) : Option Nat := if L.P < p then (L.rows[p - L.P - 1]?).map (·.1) else if p = L.P then some L.R else none
def rowAt (L : Lg α) (p : Nat) : Option (Row α) := if L.P < p then L.rows[p - L.P - 1]? else none
def memAt (L : Lg α) (p : Nat) : List Int := memb L.M (L.rows.take (p - L.P))
/-- at how many of the rows, put behind a place, the log has their reigns (or its fold is beyond) -/
def putAt (L : Lg α) (before : Nat) : Nat → List (Row α) → Option (Nat × List (Row α))
  | _, [] => none
  | at_, r :: rs => if L.P < before + 1 + at_ ∧ L.reignAt (before + 1 + at_) ≠ some r.1 then some (at_, r :: rs) else L.putAt before (at_ + 1) rs
def put (L : Lg α) (before : Nat) (rs : List (Row α)) : Lg α :=
  match L.putAt before 0 rs with
  | none => L
  | some (at_, rest) => { L with rows := L.rows.take (before + 1 + at_ - L.P - 1) ++ rest }
def folded (L : Lg α) (p : Nat) : Lg α := ⟨p, (L.reignAt p).getD 0, L.memAt p, true, L.rows.drop (p - L.P)⟩
def foldTaken (L F : Lg α) : Lg α :=
  if F.P < L.P then L else if L.reignAt F.P = some F.R then { F with rows := L.rows.drop (F.P - L.P) } else { F with rows := [] }
end Lg

/-- the reign of the place p of all rows (0: ahead of all) -/
def rg (X : List (Row α)) (p : Nat) : Nat := if p = 0 then 0 else ((X[p - 1]?).map (·.1)).getD 0

theorem rg_zero (X : List (Row α)) : rg X 0 = 0 := rfl
theorem rg_take {X : List (Row α)} {p q : Nat} (h : p ≤ q) : rg (X.take q) p = rg X p := by
  unfold rg
  by_cases e : p = 0
  · rw [if_pos e, if_pos e]
  · rw [if_neg e, if_neg e, List.getElem?_take_of_lt (by omega)]
theorem rg_at {X : List (Row α)} {p : Nat} {r : Row α} (h0 : 0 < p) (h : X[p - 1]? = some r) : rg X p = r.1 := by
  unfold rg
  rw [if_neg (by omega), h]
  rfl
theorem rg_append {X Y : List (Row α)} {p : Nat} (h : p ≤ X.length) : rg (X ++ Y) p = rg X p := by
  unfold rg
  by_cases e : p = 0
  · rw [if_pos e, if_pos e]
  · rw [if_neg e, if_neg e, List.getElem?_append_left (by omega)]

/-- the log stands for all the rows X -/
structure Rep (M0 : List Int) (L : Lg α) (X : List (Row α)) : Prop where
  le : L.P ≤ X.length
  rows : L.rows = X.drop L.P
  reign : L.R = rg X L.P
  mem : L.M = memb M0 (X.take L.P)

section
variable {M0 : List Int} {L : Lg α} {X : List (Row α)}
theorem Rep.last (r : Rep M0 L X) : L.last = X.length := by
  have h := r.le
  unfold Lg.last
  rw [r.rows, List.length_drop]
  omega
theorem Rep.at_ (r : Rep M0 L X) {p : Nat} (h : L.P < p) : L.rows[p - L.P - 1]? = X[p - 1]? := by
  rw [r.rows, List.getElem?_drop]
  congr 1
  omega
theorem Rep.rowAt (r : Rep M0 L X) {p : Nat} (h : L.P < p) : L.rowAt p = X[p - 1]? := by
  unfold Lg.rowAt
  rw [if_pos h, r.at_ h]
theorem Rep.reignAt (r : Rep M0 L X) {p : Nat} (h : L.P ≤ p) (h2 : p ≤ X.length) : L.reignAt p = some (rg X p) := by
  unfold Lg.reignAt
  by_cases e : L.P < p
  · rw [if_pos e, r.at_ e]
    unfold rg
    rw [if_neg (by omega), List.getElem?_eq_getElem (by omega)]
    rfl
  · have e1 : p = L.P := by omega
    rw [if_neg e, if_pos e1, e1, r.reign]
theorem Rep.reignAt_some (r : Rep M0 L X) {p q : Nat} (h : L.reignAt p = some q) : L.P ≤ p ∧ p ≤ X.length ∧ rg X p = q := by
  have key : L.P ≤ p ∧ p ≤ X.length := by
    unfold Lg.reignAt at h
    have hl := r.le
    by_cases e : L.P < p
    · rw [if_pos e, r.at_ e] at h
      have : p - 1 < X.length := by
        apply Classical.byContradiction
        intro hn
        rw [List.getElem?_eq_none (by omega)] at h
        cases h
      omega
    · rw [if_neg e] at h
      by_cases e1 : p = L.P
      · omega
      · rw [if_neg e1] at h
        cases h
  refine ⟨key.1, key.2, ?_⟩
  rw [r.reignAt key.1 key.2] at h
  exact Option.some.inj h
theorem Rep.memAt (r : Rep M0 L X) {p : Nat} (h : L.P ≤ p) : L.memAt p = memb M0 (X.take p) := by
  unfold Lg.memAt
  rw [r.mem, r.rows, ← memb_append]
  congr 1
  rw [← List.drop_take, ← List.take_take.trans (by rw [Nat.min_eq_left h] : _ = X.take L.P), List.take_append_drop]
end

/-- each row's reign is some head's, which has all the rows up to there -/
def LM (hs : List (List (Row α))) (X : List (Row α)) : Prop :=
  ∀ p, 0 < p → p ≤ X.length → 0 < rg X p ∧ ∃ h, hs[rg X p - 1]? = some h ∧ h.take p = X.take p

section
variable {hs : List (List (Row α))} {X Y : List (Row α)}
theorem LM.nil : LM hs [] := fun p h0 h => by
  simp at h
  omega
theorem LM.same (a : LM hs X) (b : LM hs Y) {p : Nat} (h1 : p ≤ X.length) (h2 : p ≤ Y.length) (e : rg X p = rg Y p) : X.take p = Y.take p := by
  by_cases h0 : p = 0
  · subst h0
    simp
  · obtain ⟨_, h, e1, e2⟩ := a p (by omega) h1
    obtain ⟨_, h', e1', e2'⟩ := b p (by omega) h2
    rw [← e, e1] at e1'
    cases e1'
    rw [← e2, e2']
theorem LM.take (a : LM hs X) (q : Nat) : LM hs (X.take q) := fun p h0 h => by
  rw [List.length_take] at h
  rw [rg_take (by omega)]
  obtain ⟨g, x, e1, e2⟩ := a p h0 (by omega)
  refine ⟨g, x, e1, ?_⟩
  rw [e2, List.take_take, Nat.min_eq_left (by omega)]
theorem LM.le (a : LM hs X) {p : Nat} (h : p ≤ X.length) : rg X p ≤ hs.length := by
  by_cases h0 : p = 0
  · subst h0
    exact Nat.zero_le _
  · obtain ⟨g, x, e1, e2⟩ := a p (by omega) h
    have := (List.getElem?_eq_some_iff.mp e1).1
    omega
theorem LM.nil_of (a : LM ([] : List (List (Row α))) X) : X = [] := by
  cases X with
  | nil => rfl
  | cons x r =>
    obtain ⟨_, h, e, _⟩ := a 1 (by omega) (by simp)
    simp at e
/-- a head has grown -/
theorem LM.grow (a : LM hs X) {w : Nat} {g : List (Row α)} (hw : hs[w]? = some g) (x : Row α) : LM (hs.set w (g ++ [x])) X := fun p h0 h => by
  obtain ⟨q, y, e1, e2⟩ := a p h0 h
  refine ⟨q, ?_⟩
  by_cases e : w = rg X p - 1
  · subst e
    rw [hw] at e1
    cases e1
    refine ⟨g ++ [x], by rw [List.getElem?_set_self (List.getElem?_eq_some_iff.mp hw).1], ?_⟩
    have hl : p ≤ g.length := by
      have := congrArg List.length e2
      rw [List.length_take, List.length_take] at this
      omega
    rw [List.take_append_of_le_length hl, e2]
  · exact ⟨y, by rw [List.getElem?_set_ne e, e1], e2⟩
theorem LM.grown (a : LM hs X) {w : Nat} (hw : hs[w]? = some X) (d : Deed α) : LM (hs.set w (X ++ [(w + 1, d)])) (X ++ [(w + 1, d)]) := fun p h0 h => by
  rw [List.length_append, List.length_singleton] at h
  by_cases e : p ≤ X.length
  · rw [rg_append e, List.take_append_of_le_length e]
    exact a.grow hw _ p h0 e
  · have ep : p = X.length + 1 := by omega
    subst ep
    have er : rg (X ++ [(w + 1, d)]) (X.length + 1) = w + 1 := by
      refine rg_at (by omega) (r := (w + 1, d)) ?_
      rw [Nat.add_sub_cancel, List.getElem?_append_right (Nat.le_refl _)]
      simp
    rw [er]
    refine ⟨by omega, X ++ [(w + 1, d)], ?_, rfl⟩
    rw [Nat.add_sub_cancel, List.getElem?_set_self (List.getElem?_eq_some_iff.mp hw).1]
/-- a new head -/
theorem LM.more (a : LM hs X) (g : List (Row α)) : LM (hs ++ [g]) X := fun p h0 h => by
  obtain ⟨q, y, e1, e2⟩ := a p h0 h
  exact ⟨q, y, by rw [List.getElem?_append_left (List.getElem?_eq_some_iff.mp e1).1, e1], e2⟩
theorem LM.new (a : LM hs X) (d : Deed α) : LM (hs ++ [X ++ [(hs.length + 1, d)]]) (X ++ [(hs.length + 1, d)]) := fun p h0 h => by
  rw [List.length_append, List.length_singleton] at h
  by_cases e : p ≤ X.length
  · rw [rg_append e, List.take_append_of_le_length e]
    exact a.more _ p h0 e
  · have ep : p = X.length + 1 := by omega
    subst ep
    have er : rg (X ++ [(hs.length + 1, d)]) (X.length + 1) = hs.length + 1 := by
      refine rg_at (by omega) (r := (hs.length + 1, d)) ?_
      rw [Nat.add_sub_cancel, List.getElem?_append_right (Nat.le_refl _)]
      simp
    rw [er]
    refine ⟨by omega, X ++ [(hs.length + 1, d)], ?_, rfl⟩
    rw [Nat.add_sub_cancel, List.getElem?_append_right (Nat.le_refl _)]
    simp
end

/-! ### the whole -/
/-- what one log keeps: all its rows X -/
structure LogOk (M0 : List Int) (k : Nat) (hs : List (List (Row α))) (d : Nat) (L : Lg α) (X : List (Row α)) : Prop where
  rep : Rep M0 L X
  lm : LM hs X
  deep : L.P ≤ d
  len : X.length ≤ k
  com : ∀ h ∈ hs, h.take L.P = X.take L.P

structure Good (ok : Deed α → Prop) (M0 : List Int) (k : Nat) (hs : List (List (Row α))) (d : Nat) (Ls : List (Lg α)) : Prop where
  lm : ∀ h ∈ hs, LM hs h
  len : ∀ h ∈ hs, d ≤ h.length ∧ h.length ≤ k
  com : ∀ h ∈ hs, ∀ h' ∈ hs, h.take d = h'.take d
  many : hs.length ≤ k
  zero : hs = [] → d = 0
  logs : ∀ L ∈ Ls, ∃ X, LogOk M0 k hs d L X ∧ ∀ r ∈ X, ok r.2
  oks : ∀ h ∈ hs, ∀ r ∈ h, ok r.2

section
variable {ok : Deed α → Prop} {M0 : List Int} {k : Nat} {hs : List (List (Row α))} {d : Nat} {Ls : List (Lg α)}
theorem Good.start (T : Bool) (n : Nat) : Good ok M0 k ([] : List (List (Row α))) 0 (List.replicate n ⟨0, 0, M0, T, []⟩) where
  lm := fun _ h => nomatch h
  len := fun _ h => nomatch h
  com := fun _ h => nomatch h
  many := Nat.zero_le _
  zero := fun _ => rfl
  logs := fun L hL => by
    have e := List.eq_of_mem_replicate hL
    subst e
    exact ⟨[], ⟨⟨Nat.le_refl _, rfl, rfl, rfl⟩, LM.nil, Nat.le_refl _, Nat.zero_le _, fun _ h => nomatch h⟩, fun _ h => nomatch h⟩
  oks := fun _ h => nomatch h
theorem LogOk.mono {L : Lg α} {X : List (Row α)} {k' : Nat} (o : LogOk M0 k hs d L X) (h : k ≤ k') : LogOk M0 k' hs d L X :=
  ⟨o.rep, o.lm, o.deep, Nat.le_trans o.len h, o.com⟩
theorem Good.mono {k' : Nat} (g : Good ok M0 k hs d Ls) (h : k ≤ k') : Good ok M0 k' hs d Ls where
  lm := g.lm
  len := fun x hx => ⟨(g.len x hx).1, Nat.le_trans (g.len x hx).2 h⟩
  com := g.com
  many := Nat.le_trans g.many h
  zero := g.zero
  logs := fun L hL => let ⟨X, o, q⟩ := g.logs L hL; ⟨X, o.mono h, q⟩
  oks := g.oks

/-- a row more of some head -/
theorem Good.row (g : Good ok M0 k hs d Ls) {w : Nat} {h : List (Row α)} (hw : hs[w]? = some h) {x : Deed α} (hx : ok x) : Good ok M0 (k + 1) (hs.set w (h ++ [(w + 1, x)])) d Ls := by
  have hm : h ∈ hs := List.mem_of_getElem? hw
  have key : ∀ y ∈ hs.set w (h ++ [(w + 1, x)]), y ∈ hs ∨ y = h ++ [(w + 1, x)] := fun y hy => List.mem_or_eq_of_mem_set hy
  have tk : ∀ q, q ≤ d → (h ++ [(w + 1, x)]).take q = h.take q := fun q hq => List.take_append_of_le_length (Nat.le_trans hq (g.len h hm).1)
  refine ⟨fun y hy => ?_, fun y hy => ?_, fun y hy z hz => ?_, ?_, fun e => ?_, fun L hL => ?_, fun y hy r hr => ?_⟩
  · rcases key y hy with m | rfl
    · exact (g.lm y m).grow hw _
    · exact (g.lm h hm).grown hw _
  · rcases key y hy with m | rfl
    · exact ⟨(g.len y m).1, Nat.le_succ_of_le (g.len y m).2⟩
    · rw [List.length_append, List.length_singleton]
      exact ⟨Nat.le_succ_of_le (g.len h hm).1, Nat.succ_le_succ (g.len h hm).2⟩
  · have f : ∀ y ∈ hs.set w (h ++ [(w + 1, x)]), y.take d = h.take d := fun y hy => by
      rcases key y hy with m | rfl
      · exact g.com y m h hm
      · exact tk d (Nat.le_refl _)
    rw [f y hy, f z hz]
  · rw [List.length_set]
    exact Nat.le_succ_of_le g.many
  · have : hs.length = 0 := by rw [← List.length_set (i := w) (a := h ++ [(w + 1, x)]), e]; rfl
    exact g.zero (List.eq_nil_of_length_eq_zero this)
  · obtain ⟨X, o, q⟩ := g.logs L hL
    refine ⟨X, ⟨o.rep, o.lm.grow hw _, o.deep, Nat.le_succ_of_le o.len, fun y hy => ?_⟩, q⟩
    rcases key y hy with m | rfl
    · exact o.com y m
    · rw [tk _ o.deep]
      exact o.com h hm
  · rcases key y hy with m | rfl
    · exact g.oks y m r hr
    · rcases List.mem_append.mp hr with hr | hr
      · exact g.oks h hm r hr
      · rw [List.mem_singleton.mp hr]
        exact hx

/-- the log with a row more -/
def Lg.withRow (L : Lg α) (r : Row α) : Lg α := { L with rows := L.rows ++ [r] }
theorem Rep.withRow {L : Lg α} {X : List (Row α)} (o : Rep M0 L X) (r : Row α) : Rep M0 (L.withRow r) (X ++ [r]) where
  le := by
    rw [List.length_append]
    exact Nat.le_trans o.le (Nat.le_add_right _ _)
  rows := by
    show L.rows ++ [r] = (X ++ [r]).drop L.P
    rw [List.drop_append_of_le_length o.le, o.rows]
  reign := by
    show L.R = rg (X ++ [r]) L.P
    rw [rg_append o.le, o.reign]
  mem := by
    show L.M = memb M0 ((X ++ [r]).take L.P)
    rw [List.take_append_of_le_length o.le, o.mem]

/-- a log is exchanged -/
theorem Good.setLog {j : Nat} {L' : Lg α} {X' : List (Row α)} (g : Good ok M0 k hs d Ls) (o : LogOk M0 k hs d L' X') (q : ∀ r ∈ X', ok r.2) : Good ok M0 k hs d (Ls.set j L') where
  lm := g.lm
  len := g.len
  com := g.com
  many := g.many
  zero := g.zero
  logs := fun L hL => by
    rcases List.mem_or_eq_of_mem_set hL with m | rfl
    · exact g.logs L m
    · exact ⟨X', o, q⟩
  oks := g.oks

/-- a new reign -/
theorem Good.reign (g : Good ok M0 k hs d Ls) {j : Nat} {L : Lg α} {X : List (Row α)} (o : LogOk M0 k hs d L X) (q : ∀ r ∈ X, ok r.2) (hb : ok .blank) (hd : d ≤ X.length) (hc : ∀ h ∈ hs, h.take d = X.take d) :
    Good ok M0 (k + 1) (hs ++ [X ++ [(hs.length + 1, .blank)]]) d (Ls.set j (L.withRow (hs.length + 1, .blank))) := by
  have key : ∀ y ∈ hs ++ [X ++ [(hs.length + 1, Deed.blank)]], y ∈ hs ∨ y = X ++ [(hs.length + 1, Deed.blank)] := fun y hy => by
    rcases List.mem_append.mp hy with m | m
    · exact .inl m
    · exact .inr (List.mem_singleton.mp m)
  have tk : ∀ q, q ≤ X.length → (X ++ [(hs.length + 1, Deed.blank)]).take q = X.take q := fun q hq => List.take_append_of_le_length hq
  have f : ∀ y ∈ hs ++ [X ++ [(hs.length + 1, Deed.blank)]], y.take d = X.take d := fun y hy => by
    rcases key y hy with m | rfl
    · exact hc y m
    · exact tk d hd
  have q' : ∀ r ∈ X ++ [(hs.length + 1, Deed.blank)], ok r.2 := fun r hr => by
    rcases List.mem_append.mp hr with hr | hr
    · exact q r hr
    · rw [List.mem_singleton.mp hr]
      exact hb
  have g1 : Good ok M0 (k + 1) (hs ++ [X ++ [(hs.length + 1, .blank)]]) d Ls := by
    refine ⟨fun y hy => ?_, fun y hy => ?_, fun y hy z hz => by rw [f y hy, f z hz], ?_, fun e => by simp at e, fun L hL => ?_, fun y hy => ?_⟩
    · rcases key y hy with m | rfl
      · exact (g.lm y m).more _
      · exact o.lm.new _
    · rcases key y hy with m | rfl
      · exact ⟨(g.len y m).1, Nat.le_succ_of_le (g.len y m).2⟩
      · rw [List.length_append, List.length_singleton]
        exact ⟨Nat.le_succ_of_le hd, Nat.succ_le_succ o.len⟩
    · rw [List.length_append, List.length_singleton]
      exact Nat.succ_le_succ g.many
    · obtain ⟨Z, oz, qz⟩ := g.logs L hL
      refine ⟨Z, ⟨oz.rep, oz.lm.more _, oz.deep, Nat.le_succ_of_le oz.len, fun y hy => ?_⟩, qz⟩
      rcases key y hy with m | rfl
      · exact oz.com y m
      · have hZ : Z.take L.P = X.take L.P := by
          cases hs with
          | nil =>
            have e1 := oz.lm.nil_of
            have e2 := o.lm.nil_of
            rw [e1, e2]
          | cons h0 t =>
            have m0 : h0 ∈ h0 :: t := List.mem_cons_self
            rw [← oz.com h0 m0]
            have := congrArg (List.take L.P) (hc h0 m0)
            rw [List.take_take, List.take_take, Nat.min_eq_left oz.deep] at this
            exact this
        rw [hZ]
        exact tk _ (Nat.le_trans oz.deep hd)
    · rcases key y hy with m | rfl
      · exact g.oks y m
      · exact q'
  refine g1.setLog (X' := X ++ [(hs.length + 1, .blank)]) ⟨o.rep.withRow _, o.lm.new _, o.deep, ?_, fun y hy => ?_⟩ q'
  · rw [List.length_append, List.length_singleton]
    exact Nat.succ_le_succ o.len
  · show y.take L.P = (X ++ [(hs.length + 1, Deed.blank)]).take L.P
    rw [tk _ (Nat.le_trans o.deep hd)]
    have := congrArg (List.take L.P) (f y hy)
    rw [List.take_take, List.take_take, Nat.min_eq_left o.deep] at this
    exact this

/-! ### rows that are put -/
theorem putAt_some (L : Lg α) (before : Nat) : ∀ (rs : List (Row α)) (i at_ : Nat) (rest : List (Row α)), L.putAt before i rs = some (at_, rest) →
    i ≤ at_ ∧ rest = rs.drop (at_ - i) ∧ at_ - i < rs.length ∧ L.P < before + 1 + at_ ∧ ∀ m r, i ≤ m → m < at_ → rs[m - i]? = some r → L.P < before + 1 + m → L.reignAt (before + 1 + m) = some r.1
  | [], i, at_, rest, h => by cases h
  | x :: rs, i, at_, rest, h => by
    unfold Lg.putAt at h
    by_cases c : L.P < before + 1 + i ∧ L.reignAt (before + 1 + i) ≠ some x.1
    · rw [if_pos c] at h
      cases h
      refine ⟨Nat.le_refl _, ?_, ?_, c.1, fun m r h1 h2 => by omega⟩
      · rw [Nat.sub_self]
        rfl
      · simp
    · rw [if_neg c] at h
      obtain ⟨h1, h2, h3, h4, h5⟩ := putAt_some L before rs (i + 1) at_ rest h
      refine ⟨by omega, ?_, ?_, h4, fun m r g1 g2 g3 g4 => ?_⟩
      · rw [h2, show at_ - i = (at_ - (i + 1)) + 1 by omega]
        rfl
      · rw [List.length_cons]
        omega
      · by_cases e : m = i
        · subst e
          rw [Nat.sub_self] at g3
          have e3 : x = r := Option.some.inj g3
          subst e3
          exact Classical.byContradiction fun z => c ⟨g4, z⟩
        · refine h5 m r (by omega) g2 ?_ g4
          rw [show m - i = (m - (i + 1)) + 1 by omega] at g3
          exact g3
theorem put_some {L : Lg α} {before at_ : Nat} {rs rest : List (Row α)} (h : L.putAt before 0 rs = some (at_, rest)) : L.put before rs = { L with rows := L.rows.take (before + 1 + at_ - L.P - 1) ++ rest } := by
  unfold Lg.put
  rw [h]
theorem put_none {L : Lg α} {before : Nat} {rs : List (Row α)} (h : L.putAt before 0 rs = none) : L.put before rs = L := by
  unfold Lg.put
  rw [h]

/-- some rows of a head come to a log -/
theorem LogOk.put {L : Lg α} {X h : List (Row α)} (o : LogOk M0 k hs d L X) (hm : h ∈ hs) (hl : LM hs h) (hlen : d ≤ h.length ∧ h.length ≤ k) {before n : Nat} (hbf : before ≤ h.length)
    (hc : before < L.P ∨ L.reignAt before = some (rg h before)) :
    LogOk M0 k hs d (L.put before ((h.drop before).take n)) X ∨ ∃ q, L.P ≤ q ∧ LogOk M0 k hs d (L.put before ((h.drop before).take n)) (h.take q) := by
  cases e : L.putAt before 0 ((h.drop before).take n) with
  | none =>
    rw [put_none e]
    exact .inl o
  | some v =>
    obtain ⟨at_, rest⟩ := v
    rw [put_some e]
    obtain ⟨_, h2, h3, h4, h5⟩ := putAt_some L before _ 0 at_ rest e
    rw [Nat.sub_zero] at h2 h3
    have h3' : at_ < n ∧ before + at_ < h.length := by
      rw [List.length_take, List.length_drop] at h3
      omega
    have comP : h.take L.P = X.take L.P := o.com h hm
    have hPh : L.P ≤ h.length := Nat.le_trans o.deep hlen.1
    -- up to the place ahead both are alike, and the log is so long
    have key : before + at_ ≤ X.length ∧ X.take (before + at_) = h.take (before + at_) := by
      by_cases c : at_ = 0 ∨ ¬ L.P < before + at_
      · by_cases cP : before + at_ ≤ L.P
        · refine ⟨Nat.le_trans cP o.rep.le, ?_⟩
          have := congrArg (List.take (before + at_)) comP
          rw [List.take_take, List.take_take, Nat.min_eq_left cP] at this
          exact this.symm
        · have e0 : at_ = 0 := by
            rcases c with c | c
            · exact c
            · omega
          subst e0
          rw [Nat.add_zero] at cP ⊢
          rcases hc with hc | hc
          · omega
          · obtain ⟨g1, g2, g3⟩ := o.rep.reignAt_some hc
            exact ⟨g2, o.lm.same hl g2 hbf g3⟩
      · have hlt : before + (at_ - 1) < h.length := by omega
        have gr : ((h.drop before).take n)[at_ - 1 - 0]? = some h[before + (at_ - 1)] := by
          rw [Nat.sub_zero, List.getElem?_take_of_lt (by omega), List.getElem?_drop, List.getElem?_eq_getElem hlt]
        have g := h5 (at_ - 1) _ (Nat.zero_le _) (by omega) gr (by omega)
        rw [show before + 1 + (at_ - 1) = before + at_ by omega] at g
        obtain ⟨g1, g2, g3⟩ := o.rep.reignAt_some g
        have er : rg h (before + at_) = h[before + (at_ - 1)].1 := rg_at (by omega) (by rw [show before + at_ - 1 = before + (at_ - 1) by omega, List.getElem?_eq_getElem hlt])
        exact ⟨g2, o.lm.same hl g2 (by omega) (by rw [g3, er])⟩
    obtain ⟨kl, kt⟩ := key
    have hq : L.P ≤ before + n := by omega
    have hP2 : L.P ≤ before + at_ := by omega
    have hrows : L.rows.take (before + 1 + at_ - L.P - 1) ++ rest = (h.take (before + n)).drop L.P := by
      have e1 : L.rows.take (before + 1 + at_ - L.P - 1) = (h.take (before + at_)).drop L.P := by
        rw [o.rep.rows, ← kt, List.drop_take]
        congr 1
        omega
      have e2 : rest = (h.take (before + n)).drop (before + at_) := by
        rw [h2, List.drop_take, List.drop_take, List.drop_drop]
        congr 1
        omega
      have e3 : h.take (before + n) = h.take (before + at_) ++ (h.take (before + n)).drop (before + at_) := by
        have e4 : h.take (before + at_) = (h.take (before + n)).take (before + at_) := by
          rw [List.take_take, Nat.min_eq_left (by omega)]
        rw [e4, List.take_append_drop]
      rw [e1, e2]
      conv => rhs; rw [e3]
      rw [List.drop_append_of_le_length (by rw [List.length_take]; omega)]
    have tP : (h.take (before + n)).take L.P = X.take L.P := by
      rw [List.take_take, Nat.min_eq_left hq, comP]
    refine .inr ⟨before + n, hq, ⟨⟨?_, hrows, ?_, ?_⟩, hl.take _, o.deep, ?_, fun y hy => ?_⟩⟩
    · show L.P ≤ (h.take (before + n)).length
      rw [List.length_take]
      omega
    · show L.R = rg (h.take (before + n)) L.P
      rw [o.rep.reign, ← rg_take (X := X) (Nat.le_refl L.P), ← rg_take (X := h.take (before + n)) (Nat.le_refl L.P), tP]
    · show L.M = memb M0 ((h.take (before + n)).take L.P)
      rw [tP, o.rep.mem]
    · rw [List.length_take]
      exact Nat.le_trans (Nat.min_le_right _ _) hlen.2
    · show y.take L.P = (h.take (before + n)).take L.P
      rw [tP, o.com y hy]
theorem Good.put {L : Lg α} {X h : List (Row α)} (g : Good ok M0 k hs d Ls) (o : LogOk M0 k hs d L X) (qx : ∀ r ∈ X, ok r.2) (hm : h ∈ hs) {j before n : Nat} (hbf : before ≤ h.length) (hc : before < L.P ∨ L.reignAt before = some (rg h before)) :
    Good ok M0 k hs d (Ls.set j (L.put before ((h.drop before).take n))) := by
  rcases o.put hm (g.lm h hm) (g.len h hm) (n := n) hbf hc with z | ⟨q, _, z⟩
  · exact g.setLog z qx
  · exact g.setLog z fun r hr => g.oks h hm r (List.mem_of_mem_take hr)

/-! ### folds -/
theorem Good.deeper (g : Good ok M0 k hs d Ls) {d' : Nat} (hd : d ≤ d') (hz : hs ≠ []) (hl : ∀ h ∈ hs, d' ≤ h.length) (hc : ∀ h ∈ hs, ∀ h' ∈ hs, h.take d' = h'.take d') : Good ok M0 k hs d' Ls where
  lm := g.lm
  len := fun h hh => ⟨hl h hh, (g.len h hh).2⟩
  com := hc
  many := g.many
  zero := fun e => absurd e hz
  logs := fun L hL => let ⟨X, o, q⟩ := g.logs L hL; ⟨X, ⟨o.rep, o.lm, Nat.le_trans o.deep hd, o.len, o.com⟩, q⟩
  oks := g.oks
theorem Rep.folded {L : Lg α} {X : List (Row α)} (o : Rep M0 L X) {p : Nat} (h1 : L.P ≤ p) (h2 : p ≤ X.length) : Rep M0 (L.folded p) X where
  le := h2
  rows := by
    show L.rows.drop (p - L.P) = X.drop p
    rw [o.rows, List.drop_drop]
    congr 1
    omega
  reign := by
    show (L.reignAt p).getD 0 = rg X p
    rw [o.reignAt h1 h2]
    rfl
  mem := o.memAt h1
/-- rows folded away: no further than all heads and the log are alike -/
theorem Good.fold (g : Good ok M0 k hs d Ls) {L : Lg α} {X : List (Row α)} (o : LogOk M0 k hs d L X) (qx : ∀ r ∈ X, ok r.2) (hz : hs ≠ []) {j p : Nat} (h1 : L.P ≤ p) (h2 : p ≤ X.length) (hl : ∀ h ∈ hs, p ≤ h.length)
    (hr : ∀ h ∈ hs, rg h p = rg X p) : Good ok M0 k hs (max d p) (Ls.set j (L.folded p)) := by
  have same : ∀ h ∈ hs, h.take p = X.take p := fun h hh => (g.lm h hh).same o.lm (hl h hh) h2 (hr h hh)
  have g2 : Good ok M0 k hs (max d p) Ls := by
    refine g.deeper (Nat.le_max_left _ _) hz (fun h hh => Nat.max_le.mpr ⟨(g.len h hh).1, hl h hh⟩) fun h hh h' hh' => ?_
    by_cases e : d ≤ p
    · rw [Nat.max_eq_right e, same h hh, same h' hh']
    · rw [Nat.max_eq_left (by omega)]
      exact g.com h hh h' hh'
  exact g2.setLog (X' := X) ⟨o.rep.folded h1 h2, o.lm, Nat.le_max_right _ _, o.len, same⟩ qx
theorem LogOk.taken {L F : Lg α} {X Y : List (Row α)} (o : LogOk M0 k hs d L X) (f : LogOk M0 k hs d F Y) (hz : hs = [] → X = [] ∧ Y = []) (hlm : ∀ h ∈ hs, LM hs h) (hlen : ∀ h ∈ hs, d ≤ h.length) :
    LogOk M0 k hs d (L.foldTaken F) X ∨ LogOk M0 k hs d (L.foldTaken F) (Y.take F.P) := by
  unfold Lg.foldTaken
  by_cases c : F.P < L.P
  · rw [if_pos c]
    exact .inl o
  rw [if_neg c]
  by_cases c2 : L.reignAt F.P = some F.R
  · rw [if_pos c2]
    obtain ⟨g1, g2, g3⟩ := o.rep.reignAt_some c2
    have same : X.take F.P = Y.take F.P := o.lm.same f.lm g2 f.rep.le (by rw [g3, f.rep.reign])
    refine .inl ⟨⟨g2, ?_, g3.symm, ?_⟩, o.lm, f.deep, o.len, fun h hh => ?_⟩
    · show L.rows.drop (F.P - L.P) = X.drop F.P
      rw [o.rep.rows, List.drop_drop]
      congr 1
      omega
    · show F.M = memb M0 (X.take F.P)
      rw [same, f.rep.mem]
    · show h.take F.P = X.take F.P
      rw [same, f.com h hh]
  · rw [if_neg c2]
    refine .inr ⟨⟨?_, ?_, ?_, ?_⟩, f.lm.take _, f.deep, ?_, fun h hh => ?_⟩
    · show F.P ≤ (Y.take F.P).length
      rw [List.length_take]
      exact Nat.le_min.mpr ⟨Nat.le_refl _, f.rep.le⟩
    · show [] = (Y.take F.P).drop F.P
      rw [List.drop_take, Nat.sub_self, List.take_zero]
    · show F.R = rg (Y.take F.P) F.P
      rw [rg_take (Nat.le_refl _), f.rep.reign]
    · show F.M = memb M0 ((Y.take F.P).take F.P)
      rw [List.take_take, Nat.min_self, f.rep.mem]
    · rw [List.length_take]
      exact Nat.le_trans (Nat.min_le_right _ _) f.len
    · show h.take F.P = (Y.take F.P).take F.P
      rw [List.take_take, Nat.min_self, f.com h hh]
theorem Good.taken (g : Good ok M0 k hs d Ls) {L F : Lg α} {j : Nat} (hL : L ∈ Ls) (hF : F ∈ Ls) : Good ok M0 k hs d (Ls.set j (L.foldTaken F)) := by
  obtain ⟨X, o, qx⟩ := g.logs L hL
  obtain ⟨Y, f, qy⟩ := g.logs F hF
  rcases o.taken f (fun e => by subst e; exact ⟨o.lm.nil_of, f.lm.nil_of⟩) g.lm (fun h hh => (g.len h hh).1) with z | z
  · exact g.setLog z qx
  · exact g.setLog z fun r hr => qy r (List.mem_of_mem_take hr)

/-! ### what is asked of two logs -/
structure Agree (A B : Lg α) : Prop where
  mem : ∀ p, A.P ≤ p → B.P ≤ p → p ≤ A.last → p ≤ B.last → A.reignAt p = B.reignAt p → A.memAt p = B.memAt p
  reign : ∀ p q, A.P ≤ q → B.P ≤ q → q ≤ p → p ≤ A.last → p ≤ B.last → A.reignAt p = B.reignAt p → A.reignAt q = B.reignAt q
  row : ∀ p q, A.P < q → B.P < q → q ≤ p → p ≤ A.last → p ≤ B.last → A.reignAt p = B.reignAt p → A.rowAt q = B.rowAt q
theorem LogOk.agree {A B : Lg α} {X Y : List (Row α)} (a : LogOk M0 k hs d A X) (b : LogOk M0 k hs d B Y) : Agree A B := by
  have same : ∀ p, A.P ≤ p → B.P ≤ p → p ≤ A.last → p ≤ B.last → A.reignAt p = B.reignAt p → X.take p = Y.take p ∧ p ≤ X.length ∧ p ≤ Y.length := fun p h1 h2 h3 h4 e => by
    rw [a.rep.last] at h3
    rw [b.rep.last] at h4
    rw [a.rep.reignAt h1 h3, b.rep.reignAt h2 h4] at e
    exact ⟨a.lm.same b.lm h3 h4 (Option.some.inj e), h3, h4⟩
  refine ⟨fun p h1 h2 h3 h4 e => ?_, fun p q h1 h2 hq h3 h4 e => ?_, fun p q h1 h2 hq h3 h4 e => ?_⟩
  · rw [a.rep.memAt h1, b.rep.memAt h2, (same p h1 h2 h3 h4 e).1]
  · obtain ⟨s, l1, l2⟩ := same p (by omega) (by omega) h3 h4 e
    rw [a.rep.reignAt h1 (by omega), b.rep.reignAt h2 (by omega), ← rg_take (X := X) hq, ← rg_take (X := Y) hq, s]
  · obtain ⟨s, l1, l2⟩ := same p (by omega) (by omega) h3 h4 e
    rw [a.rep.rowAt h1, b.rep.rowAt h2, ← List.getElem?_take_of_lt (l := X) (show q - 1 < p by omega), ← List.getElem?_take_of_lt (l := Y) (show q - 1 < p by omega), s]
theorem Good.agree (g : Good ok M0 k hs d Ls) {A B : Lg α} (hA : A ∈ Ls) (hB : B ∈ Ls) : Agree A B :=
  let ⟨_, a, _⟩ := g.logs A hA
  let ⟨_, b, _⟩ := g.logs B hB
  a.agree b
end
end
end K7
/-! what stands in memory: rows, logs, heads; rules in the words of logs -/
namespace K7
open PySem PySem.Spec PyProof.Rows L2
/-! ### the text -/
def topS (i : Nat) : Stmt := PySem.Challenge.pw_scribehall_k07_whole_logs_that_match.main.body.getD i (.Pass ⟨0, 0, 0, 0⟩)
abbrev s_is_whole : Stmt := topS 8
abbrev N_is_whole : List Str := ["thing"]
theorem sc_is_whole : FnScope ["thing"] ["thing"] (defScope s_is_whole) := ⟨rfl, rfl, rfl, by decide +kernel, rfl, by decide +kernel, by decide +kernel⟩
abbrev s_is_among : Stmt := topS 9
abbrev N_is_among : List Str := ["thing", "least", "most"]
theorem sc_is_among : FnScope ["thing", "least", "most"] ["thing", "least", "most"] (defScope s_is_among) := ⟨rfl, rfl, rfl, by decide +kernel, rfl, by decide +kernel, by decide +kernel⟩
abbrev s_are_members : Stmt := topS 12
abbrev N_are_members : List Str := ["thing", "one", "other"]
theorem sc_are_members : FnScope ["thing", "one", "other"] ["thing"] (defScope s_are_members) := ⟨rfl, rfl, rfl, by decide +kernel, rfl, by decide +kernel, by decide +kernel⟩
abbrev s_need_members : Stmt := topS 13
abbrev N_need_members : List Str := ["thing"]
theorem sc_need_members : FnScope ["thing"] ["thing"] (defScope s_need_members) := ⟨rfl, rfl, rfl, by decide +kernel, rfl, by decide +kernel, by decide +kernel⟩
abbrev s_is_told : Stmt := topS 15
abbrev N_is_told : List Str := ["thing"]
theorem sc_is_told : FnScope ["thing"] ["thing"] (defScope s_is_told) := ⟨rfl, rfl, rfl, by decide +kernel, rfl, by decide +kernel, by decide +kernel⟩
abbrev s_is_fold : Stmt := topS 16
abbrev N_is_fold : List Str := ["thing"]
theorem sc_is_fold : FnScope ["thing"] ["thing"] (defScope s_is_fold) := ⟨rfl, rfl, rfl, by decide +kernel, rfl, by decide +kernel, by decide +kernel⟩
abbrev s_need_fold : Stmt := topS 17
abbrev N_need_fold : List Str := ["thing"]
theorem sc_need_fold : FnScope ["thing"] ["thing"] (defScope s_need_fold) := ⟨rfl, rfl, rfl, by decide +kernel, rfl, by decide +kernel, by decide +kernel⟩
abbrev s_first_fold : Stmt := topS 18
abbrev N_first_fold : List Str := ["members", "told"]
theorem sc_first_fold : FnScope ["members", "told"] ["members", "told"] (defScope s_first_fold) := ⟨rfl, rfl, rfl, by decide +kernel, rfl, by decide +kernel, by decide +kernel⟩
abbrev s_last : Stmt := topS 20
abbrev N_last : List Str := ["log"]
theorem sc_last : FnScope ["log"] ["log"] (defScope s_last) := ⟨rfl, rfl, rfl, by decide +kernel, rfl, by decide +kernel, by decide +kernel⟩
abbrev s_has_row : Stmt := topS 21
abbrev N_has_row : List Str := ["log", "place"]
theorem sc_has_row : FnScope ["log", "place"] ["log", "place"] (defScope s_has_row) := ⟨rfl, rfl, rfl, by decide +kernel, rfl, by decide +kernel, by decide +kernel⟩
abbrev s_reign_at : Stmt := topS 22
abbrev N_reign_at : List Str := ["log", "place"]
theorem sc_reign_at : FnScope ["log", "place"] ["log", "place"] (defScope s_reign_at) := ⟨rfl, rfl, rfl, by decide +kernel, rfl, by decide +kernel, by decide +kernel⟩
abbrev s_row_at : Stmt := topS 23
abbrev N_row_at : List Str := ["log", "place"]
theorem sc_row_at : FnScope ["log", "place"] ["log", "place"] (defScope s_row_at) := ⟨rfl, rfl, rfl, by decide +kernel, rfl, by decide +kernel, by decide +kernel⟩
abbrev s_with_row : Stmt := topS 24
abbrev N_with_row : List Str := ["log", "row"]
theorem sc_with_row : FnScope ["log", "row"] ["log", "row"] (defScope s_with_row) := ⟨rfl, rfl, rfl, by decide +kernel, rfl, by decide +kernel, by decide +kernel⟩
abbrev s_put_rows : Stmt := topS 25
abbrev N_put_rows : List Str := ["log", "before", "rows", "at", "row", "place"]
theorem sc_put_rows : FnScope ["log", "before", "rows", "at", "row", "place"] ["log", "before", "rows"] (defScope s_put_rows) := ⟨rfl, rfl, rfl, by decide +kernel, rfl, by decide +kernel, by decide +kernel⟩
abbrev s_members_at : Stmt := topS 26
abbrev N_members_at : List Str := ["log", "place", "found", "row"]
theorem sc_members_at : FnScope ["log", "place", "found", "row"] ["log", "place"] (defScope s_members_at) := ⟨rfl, rfl, rfl, by decide +kernel, rfl, by decide +kernel, by decide +kernel⟩
abbrev s_folded : Stmt := topS 27
abbrev N_folded : List Str := ["log", "place", "told", "members", "fold"]
theorem sc_folded : FnScope ["log", "place", "told", "members", "fold"] ["log", "place", "told"] (defScope s_folded) := ⟨rfl, rfl, rfl, by decide +kernel, rfl, by decide +kernel, by decide +kernel⟩
abbrev s_fold_taken : Stmt := topS 28
abbrev N_fold_taken : List Str := ["log", "fold"]
theorem sc_fold_taken : FnScope ["log", "fold"] ["log", "fold"] (defScope s_fold_taken) := ⟨rfl, rfl, rfl, by decide +kernel, rfl, by decide +kernel, by decide +kernel⟩
abbrev s_l_mixed : Stmt := topS 30
abbrev N_l_mixed : List Str := ["_law_number", "_law_k"]
theorem sc_l_mixed : FnScope ["_law_number", "_law_k"] ["_law_number", "_law_k"] (defScope s_l_mixed) := ⟨rfl, rfl, rfl, by decide +kernel, rfl, by decide +kernel, by decide +kernel⟩
abbrev s_l_stream : Stmt := topS 31
abbrev N_l_stream : List Str := ["_law_script", "_law_cell", "_law_k"]
theorem sc_l_stream : FnScope ["_law_script", "_law_cell", "_law_k"] ["_law_script", "_law_cell", "_law_k"] (defScope s_l_stream) := ⟨rfl, rfl, rfl, by decide +kernel, rfl, by decide +kernel, by decide +kernel⟩
abbrev s_l_take : Stmt := topS 32
abbrev N_l_take : List Str := ["_law_stream_here", "_law_many", "_law_number"]
theorem sc_l_take : FnScope ["_law_stream_here", "_law_many", "_law_number"] ["_law_stream_here", "_law_many"] (defScope s_l_take) := ⟨rfl, rfl, rfl, by decide +kernel, rfl, by decide +kernel, by decide +kernel⟩
abbrev s_l_members_by : Stmt := topS 33
abbrev N_l_members_by : List Str := ["_law_stream_here", "_law_left", "_law_found", "_law_k"]
theorem sc_l_members_by : FnScope ["_law_stream_here", "_law_left", "_law_found", "_law_k"] ["_law_stream_here"] (defScope s_l_members_by) := ⟨rfl, rfl, rfl, by decide +kernel, rfl, by decide +kernel, by decide +kernel⟩
abbrev s_l_value_by : Stmt := topS 34
abbrev N_l_value_by : List Str := ["_law_stream_here", "_law_near"]
theorem sc_l_value_by : FnScope ["_law_stream_here", "_law_near"] ["_law_stream_here"] (defScope s_l_value_by) := ⟨rfl, rfl, rfl, by decide +kernel, rfl, by decide +kernel, by decide +kernel⟩
abbrev s_l_key_by : Stmt := topS 35
abbrev N_l_key_by : List Str := ["_law_stream_here", "_law_base", "_law_at"]
theorem sc_l_key_by : FnScope ["_law_stream_here", "_law_base", "_law_at"] ["_law_stream_here"] (defScope s_l_key_by) := ⟨rfl, rfl, rfl, by decide +kernel, rfl, by decide +kernel, by decide +kernel⟩
abbrev s_l_ask_by : Stmt := topS 36
abbrev N_l_ask_by : List Str := ["_law_stream_here", "_law_kind", "_law_key", "_law_old"]
theorem sc_l_ask_by : FnScope ["_law_stream_here", "_law_kind", "_law_key", "_law_old"] ["_law_stream_here"] (defScope s_l_ask_by) := ⟨rfl, rfl, rfl, by decide +kernel, rfl, by decide +kernel, by decide +kernel⟩
abbrev s_l_deed_by : Stmt := topS 37
abbrev N_l_deed_by : List Str := ["_law_stream_here", "_law_kind"]
theorem sc_l_deed_by : FnScope ["_law_stream_here", "_law_kind"] ["_law_stream_here"] (defScope s_l_deed_by) := ⟨rfl, rfl, rfl, by decide +kernel, rfl, by decide +kernel, by decide +kernel⟩
abbrev s_l_match : Stmt := topS 38
abbrev N_l_match : List Str := ["_law_one", "_law_other", "_law_begin", "_law_alike", "_law_place", "_law_reign"]
theorem sc_l_match : FnScope ["_law_one", "_law_other", "_law_begin", "_law_alike", "_law_place", "_law_reign"] ["_law_one", "_law_other"] (defScope s_l_match) := ⟨rfl, rfl, rfl, by decide +kernel, rfl, by decide +kernel, by decide +kernel⟩
abbrev s_l_common : Stmt := topS 39
abbrev N_l_common : List Str := ["_law_heads", "_law_least", "_law_at", "_law_rows"]
theorem sc_l_common : FnScope ["_law_heads", "_law_least", "_law_at", "_law_rows"] ["_law_heads", "_law_least"] (defScope s_l_common) := ⟨rfl, rfl, rfl, by decide +kernel, rfl, by decide +kernel, by decide +kernel⟩
abbrev s_l_head_deed : Stmt := topS 40
abbrev N_l_head_deed : List Str := ["_law_stream_here", "_law_logs", "_law_heads", "_law_deepest", "_law_at", "_law_which", "_law_full", "_law_rows"]
theorem sc_l_head_deed : FnScope ["_law_stream_here", "_law_logs", "_law_heads", "_law_deepest", "_law_at", "_law_which", "_law_full", "_law_rows"] ["_law_stream_here", "_law_logs", "_law_heads", "_law_deepest"] (defScope s_l_head_deed) := ⟨rfl, rfl, rfl, by decide +kernel, rfl, by decide +kernel, by decide +kernel⟩
abbrev s_l_all_rows : Stmt := topS 41
abbrev N_l_all_rows : List Str := ["_law_log", "_law_heads", "_law_place", "_law_some", "_law_rows"]
theorem sc_l_all_rows : FnScope ["_law_log", "_law_heads", "_law_place", "_law_some", "_law_rows"] ["_law_log", "_law_heads"] (defScope s_l_all_rows) := ⟨rfl, rfl, rfl, by decide +kernel, rfl, by decide +kernel, by decide +kernel⟩
abbrev s_l_sent : Stmt := topS 42
abbrev N_l_sent : List Str := ["_law_stream_here", "_law_logs", "_law_heads", "_law_rows", "_law_at", "_law_before", "_law_some", "_law_ahead"]
theorem sc_l_sent : FnScope ["_law_stream_here", "_law_logs", "_law_heads", "_law_rows", "_law_at", "_law_before", "_law_some", "_law_ahead"] ["_law_stream_here", "_law_logs", "_law_heads"] (defScope s_l_sent) := ⟨rfl, rfl, rfl, by decide +kernel, rfl, by decide +kernel, by decide +kernel⟩
abbrev s_l_fold_deed : Stmt := topS 43
abbrev N_l_fold_deed : List Str := ["_law_stream_here", "_law_logs", "_law_heads", "_law_deepest", "_law_at", "_law_other", "_law_rows", "_law_far", "_law_place", "_law_one"]
theorem sc_l_fold_deed : FnScope ["_law_stream_here", "_law_logs", "_law_heads", "_law_deepest", "_law_at", "_law_other", "_law_rows", "_law_far", "_law_place", "_law_one"] ["_law_stream_here", "_law_logs", "_law_heads", "_law_deepest"] (defScope s_l_fold_deed) := ⟨rfl, rfl, rfl, by decide +kernel, rfl, by decide +kernel, by decide +kernel⟩
abbrev s_law : Stmt := topS 44
abbrev N_law : List Str := ["_law_script", "_law_stream_here", "_law_fold", "_law_logs", "_law_heads", "_law_deepest", "_law_k", "_law_cell", "_law_kind", "_law_j"]
theorem sc_law : FnScope ["_law_script", "_law_stream_here", "_law_fold", "_law_logs", "_law_heads", "_law_deepest", "_law_k", "_law_cell", "_law_kind", "_law_j"] ["_law_script"] (defScope s_law) := ⟨rfl, rfl, rfl, by decide +kernel, rfl, by decide +kernel, by decide +kernel⟩
/-- where one of the defs stands, and how it is called -/
structure Def (K : PySem.W.Frag) (mg : Str → Option Value) (x : Str) (st : Stmt) (ps : List Str) (f : Addr) (fd : FuncData) : Prop where
  fn : Fun K x x st f fd
  b : Binds K fd ps []
  g : mg x = some (.ref f)
/-- the top's facts -/
structure Txt (K : PySem.W.Frag) (mg : Str → Option Value) : Prop where
  d_is_whole : ∃ f fd, Def K mg "is_whole" s_is_whole ["thing"] f fd
  d_is_among : ∃ f fd, Def K mg "is_among" s_is_among ["thing", "least", "most"] f fd
  d_are_members : ∃ f fd, Def K mg "are_members" s_are_members ["thing"] f fd
  d_need_members : ∃ f fd, Def K mg "need_members" s_need_members ["thing"] f fd
  d_is_told : ∃ f fd, Def K mg "is_told" s_is_told ["thing"] f fd
  d_is_fold : ∃ f fd, Def K mg "is_fold" s_is_fold ["thing"] f fd
  d_need_fold : ∃ f fd, Def K mg "need_fold" s_need_fold ["thing"] f fd
  d_first_fold : ∃ f fd, Def K mg "first_fold" s_first_fold ["members", "told"] f fd
  d_last : ∃ f fd, Def K mg "last" s_last ["log"] f fd
  d_has_row : ∃ f fd, Def K mg "has_row" s_has_row ["log", "place"] f fd
  d_reign_at : ∃ f fd, Def K mg "reign_at" s_reign_at ["log", "place"] f fd
  d_row_at : ∃ f fd, Def K mg "row_at" s_row_at ["log", "place"] f fd
  d_with_row : ∃ f fd, Def K mg "with_row" s_with_row ["log", "row"] f fd
  d_put_rows : ∃ f fd, Def K mg "put_rows" s_put_rows ["log", "before", "rows"] f fd
  d_members_at : ∃ f fd, Def K mg "members_at" s_members_at ["log", "place"] f fd
  d_folded : ∃ f fd, Def K mg "folded" s_folded ["log", "place", "told"] f fd
  d_fold_taken : ∃ f fd, Def K mg "fold_taken" s_fold_taken ["log", "fold"] f fd
  d_l_mixed : ∃ f fd, Def K mg "_law_mixed" s_l_mixed ["_law_number", "_law_k"] f fd
  d_l_stream : ∃ f fd, Def K mg "_law_stream" s_l_stream ["_law_script", "_law_cell", "_law_k"] f fd
  d_l_take : ∃ f fd, Def K mg "_law_take" s_l_take ["_law_stream_here", "_law_many"] f fd
  d_l_members_by : ∃ f fd, Def K mg "_law_members_by" s_l_members_by ["_law_stream_here"] f fd
  d_l_value_by : ∃ f fd, Def K mg "_law_value_by" s_l_value_by ["_law_stream_here"] f fd
  d_l_key_by : ∃ f fd, Def K mg "_law_key_by" s_l_key_by ["_law_stream_here"] f fd
  d_l_ask_by : ∃ f fd, Def K mg "_law_ask_by" s_l_ask_by ["_law_stream_here"] f fd
  d_l_deed_by : ∃ f fd, Def K mg "_law_deed_by" s_l_deed_by ["_law_stream_here"] f fd
  d_l_match : ∃ f fd, Def K mg "_law_match" s_l_match ["_law_one", "_law_other"] f fd
  d_l_common : ∃ f fd, Def K mg "_law_common" s_l_common ["_law_heads", "_law_least"] f fd
  d_l_head_deed : ∃ f fd, Def K mg "_law_head_deed" s_l_head_deed ["_law_stream_here", "_law_logs", "_law_heads", "_law_deepest"] f fd
  d_l_all_rows : ∃ f fd, Def K mg "_law_all_rows" s_l_all_rows ["_law_log", "_law_heads"] f fd
  d_l_sent : ∃ f fd, Def K mg "_law_sent" s_l_sent ["_law_stream_here", "_law_logs", "_law_heads"] f fd
  d_l_fold_deed : ∃ f fd, Def K mg "_law_fold_deed" s_l_fold_deed ["_law_stream_here", "_law_logs", "_law_heads", "_law_deepest"] f fd
  n_isinstance : mg "isinstance" = none
  n_int : mg "int" = none
  n_bool : mg "bool" = none
  n_tuple : mg "tuple" = none
  n_str : mg "str" = none
  n_len : mg "len" = none
  n_all : mg "all" = none
  n_zip : mg "zip" = none
  n_any : mg "any" = none
  n_enumerate : mg "enumerate" = none
  n_range : mg "range" = none
  n_list : mg "list" = none
  n_sorted : mg "sorted" = none
  n_max : mg "max" = none
  n_min : mg "min" = none
  c_MOST : ∃ t, mg "MOST" = some (.int 1000000 t)
  c_LAST_SCRIBE : ∃ t, mg "LAST_SCRIBE" = some (.int 8 t)
  c_MOST_MEMBERS : ∃ t, mg "MOST_MEMBERS" = some (.int 7 t)


theorem cl {X : Cx} {x : Str} {st : Stmt} {ps : List Str} {f : Addr} {fd : FuncData} {k : Nat} {sp : Sp} {e : Expr} {es : List Expr} {t : TA} {p pos : Pos} (D : Def X.K X.mg x st ps f fd) (G : FnOk X.prog X.w X.K X.mg X.base CX0 k f fd ps sp) (hr : Room k X.A)
    (ha : PA X (e :: es) t) (hg : Gl X x := by rfl) (hdb : (x == ("__debug__" : Str)) = false := by decide) (he : starEach (e :: es) X.env = (false, eval e X.env) :: starEach es X.env := by rfl) (hpl : (backTo pos (starEach es X.env)).any (·.1) = false := by rfl) :
    PE X (.Call (.Name x p) (e :: es) [] pos) (tCall sp [] E0 t) := pe_call G hr hg D.g D.fn.kp D.b .nil pass0 ha hdb he hpl

/-! ### the heap -/
/-- all that was tracked is kept, but the lists at some places -/
structure Kp (l : List Addr) (H H' : Hp) : Prop where
  tup : ∀ a xs, H a = some (.tup xs) → H' a = some (.tup xs)
  lst : ∀ a xs, a ∉ l → H a = some (.lst xs) → H' a = some (.lst xs)
  frz : ∀ a o u, H a = some (.frz o u) → H' a = some (.frz o u)
theorem Kp.refl (l : List Addr) (H : Hp) : Kp l H H := ⟨fun _ _ h => h, fun _ _ _ h => h, fun _ _ _ h => h⟩
theorem Kp.trans {l : List Addr} {H H1 H2 : Hp} (a : Kp l H H1) (b : Kp l H1 H2) : Kp l H H2 :=
  ⟨fun x xs h => b.tup x xs (a.tup x xs h), fun x xs n h => b.lst x xs n (a.lst x xs n h), fun x o u h => b.frz x o u (a.frz x o u h)⟩
theorem Kp.mono {l l' : List Addr} {H H' : Hp} (a : Kp l H H') (h : ∀ x ∈ l, x ∈ l') : Kp l' H H' := ⟨a.tup, fun x xs n => a.lst x xs fun m => n (h x m), a.frz⟩
theorem Kp.of {l : List Addr} {H H' : Hp} (s : Same H H') : Kp l H H' := ⟨fun _ _ h => s _ _ h, fun _ _ _ h => s _ _ h, fun _ _ _ h => s _ _ h⟩
theorem Kp.upd {l : List Addr} {H : Hp} {a : Addr} {xs ys : List V} (h : H a = some (.lst xs)) (ha : a ∈ l) : Kp l H (upd H a (.lst ys)) :=
  ⟨fun b zs e => by rw [upd_ne (ne_of e h (by intro z; cases z))]; exact e, fun b zs n e => by rw [upd_ne (fun z => n (by rw [z]; exact ha))]; exact e, fun b o u e => by rw [upd_ne (ne_of e h (by intro z; cases z))]; exact e⟩
theorem new_ {H : Hp} {p : Addr} {o : HO} (h : H p = none) : Same H (upd H p o) := fun b x e => by
  rw [upd_ne (ne_of_none e h)]
  exact e
theorem Kp.new {l : List Addr} {H : Hp} {p : Addr} {o : HO} (h : H p = none) : Kp l H (L2.upd H p o) := .of (new_ h)
/-- a list that was not there may change -/
theorem Kp.mut {l : List Addr} {H H' : Hp} {p : Addr} {o : HO} (e : Kp l H H') (h : H p = none) : Kp l H (L2.upd H' p o) :=
  ⟨fun b zs q => by rw [upd_ne (ne_of_none q h)]; exact e.tup _ _ q, fun b zs n q => by rw [upd_ne (ne_of_none q h)]; exact e.lst _ _ n q, fun b o u q => by rw [upd_ne (ne_of_none q h)]; exact e.frz _ _ _ q⟩
theorem same_mut {H H' : Hp} {p : Addr} {o : HO} (e : Same H H') (h : H p = none) : Same H (upd H' p o) := fun b u q => by
  rw [upd_ne (ne_of_none q h)]
  exact e _ _ q
theorem free_back {H H' : Hp} {p : Addr} (e : Same H H') (h : H' p = none) : H p = none := e.free h

/-! ### pairs of lists -/
section
variable {α β : Type} {F G : α → β → Prop}
theorem pd_get : ∀ {xs : List α} {ys : List β} {i : Nat} {x : α} {y : β}, Paired F xs ys → xs[i]? = some x → ys[i]? = some y → F x y
  | _, _, _, _, _, .nil, h, _ => by simp at h
  | _, _, 0, _, _, .cons r _, h, h' => by
    cases Option.some.inj h
    cases Option.some.inj h'
    exact r
  | _, _, i + 1, _, _, .cons _ t, h, h' => pd_get (i := i) t h h'
theorem pd_left {xs : List α} {ys : List β} {i : Nat} {x : α} (p : Paired F xs ys) (h : xs[i]? = some x) : ∃ y, ys[i]? = some y ∧ F x y := by
  have hl := Paired.length p
  have hi := (List.getElem?_eq_some_iff.mp h).1
  have e : ys[i]? = some (ys[i]'(by omega)) := List.getElem?_eq_getElem (by omega)
  exact ⟨_, e, pd_get p h e⟩
theorem pd_right {xs : List α} {ys : List β} {i : Nat} {y : β} (p : Paired F xs ys) (h : ys[i]? = some y) : ∃ x, xs[i]? = some x ∧ F x y := by
  have hl := Paired.length p
  have hi := (List.getElem?_eq_some_iff.mp h).1
  have e : xs[i]? = some (xs[i]'(by omega)) := List.getElem?_eq_getElem (by omega)
  exact ⟨_, e, pd_get p e h⟩
theorem pd_take : ∀ {xs : List α} {ys : List β} (n : Nat), Paired F xs ys → Paired F (xs.take n) (ys.take n)
  | _, _, 0, _ => .nil
  | _, _, _ + 1, .nil => .nil
  | _, _, n + 1, .cons r t => .cons r (pd_take n t)
theorem pd_drop : ∀ {xs : List α} {ys : List β} (n : Nat), Paired F xs ys → Paired F (xs.drop n) (ys.drop n)
  | _, _, 0, r => r
  | _, _, _ + 1, .nil => .nil
  | _, _, n + 1, .cons _ t => pd_drop n t
theorem pd_append : ∀ {xs xs' : List α} {ys ys' : List β}, Paired F xs ys → Paired F xs' ys' → Paired F (xs ++ xs') (ys ++ ys')
  | _, _, _, _, .nil, s => s
  | _, _, _, _, .cons r t, s => .cons r (pd_append t s)
theorem pd_set {x : α} {y : β} (r : F x y) : ∀ {xs : List α} {ys : List β} (i : Nat), Paired F xs ys → Paired F (xs.set i x) (ys.set i y)
  | _, _, _, .nil => .nil
  | _, _, 0, .cons _ t => .cons r t
  | _, _, i + 1, .cons q t => .cons q (pd_set r i t)
theorem pd_one {x : α} {y : β} (r : F x y) : Paired F [x] [y] := .cons r .nil
theorem pd_map {γ : Type} {g : γ → β} {f : γ → α} (h : ∀ c, F (f c) (g c)) : ∀ l : List γ, Paired F (l.map f) (l.map g)
  | [] => .nil
  | c :: r => .cons (h c) (pd_map h r)
end

/-! ### data: none, ints, texts, tuples of such -/
mutual
inductive Tp (H : Hp) : V → PyData → Prop
  | non : Tp H .non .none
  | int (i : Int) : Tp H (.int i) (.int i)
  | str (x : Str) : Tp H (.str x) (.str x)
  | tup {a : Addr} {xs : List V} {ds : List PyData} : H a = some (.tup xs) → Tps H xs ds → Tp H (.ref a) (.tuple ds)
inductive Tps (H : Hp) : List V → List PyData → Prop
  | nil : Tps H [] []
  | cons {v : V} {vs : List V} {d : PyData} {ds : List PyData} : Tp H v d → Tps H vs ds → Tps H (v :: vs) (d :: ds)
end
mutual
theorem Tp.kp {l : List Addr} {H H' : Hp} (k : Kp l H H') : ∀ {v : V} {d : PyData}, Tp H v d → Tp H' v d
  | _, _, .non => .non
  | _, _, .int i => .int i
  | _, _, .str x => .str x
  | _, _, .tup h t => .tup (k.tup _ _ h) (Tps.kp k t)
theorem Tps.kp {l : List Addr} {H H' : Hp} (k : Kp l H H') : ∀ {vs : List V} {ds : List PyData}, Tps H vs ds → Tps H' vs ds
  | _, _, .nil => .nil
  | _, _, .cons h t => .cons (Tp.kp k h) (Tps.kp k t)
end
mutual
theorem Tp.dp {K : PySem.W.Frag} {H : Hp} : ∀ {v : V} {d : PyData}, Tp H v d → Dp K H v d
  | _, _, .non => .non
  | _, _, .int i => .int i
  | _, _, .str x => .str x
  | _, _, .tup h t => .tup (SqT.of h) (Tps.dp t)
theorem Tps.dp {K : PySem.W.Frag} {H : Hp} : ∀ {vs : List V} {ds : List PyData}, Tps H vs ds → DpAll K H vs ds
  | _, _, .nil => .nil
  | _, _, .cons h t => .cons (Tp.dp h) (Tps.dp t)
end
/-- flat: texts of signs, no deeper than three tuples -/
def flatD (n : Nat) (d : PyData) : Prop := d.canLay0 = true ∧ d.depth ≤ n
def flatDs (n : Nat) (ds : List PyData) : Prop := PyData.canLayAll0 ds = true ∧ PyData.depthAll ds ≤ n
theorem flatDs_nil (n : Nat) : flatDs n [] := ⟨by simp [PyData.canLayAll0], by simp [PyData.depthAll]⟩
theorem flatDs_cons {n : Nat} {d : PyData} {ds : List PyData} (a : flatD n d) (b : flatDs n ds) : flatDs n (d :: ds) :=
  ⟨by simp only [PyData.canLayAll0, a.1, b.1, Bool.and_self], by simp only [PyData.depthAll]; exact Nat.max_le.mpr ⟨a.2, b.2⟩⟩
theorem flatD_tup {n : Nat} {ds : List PyData} (a : flatDs n ds) : flatD (n + 1) (.tuple ds) := ⟨by simp only [PyData.canLay0]; exact a.1, by simp only [PyData.depth]; exact Nat.succ_le_succ a.2⟩
theorem flatD_lst {n : Nat} {ds : List PyData} (a : flatDs n ds) : flatD (n + 1) (.list ds) := ⟨by simp only [PyData.canLay0]; exact a.1, by simp only [PyData.depth]; exact Nat.succ_le_succ a.2⟩
theorem flatD_int (n : Nat) (i : Int) : flatD n (.int i) := ⟨by simp [PyData.canLay0], by simp [PyData.depth]⟩
theorem flatD_non (n : Nat) : flatD n .none := ⟨by simp [PyData.canLay0], by simp [PyData.depth]⟩
theorem flatD_str (n : Nat) {x : Str} (h : PyData.strOk x = true) : flatD n (.str x) := ⟨by simp [PyData.canLay0, h], by simp [PyData.depth]⟩
theorem flatD_mono {n m : Nat} {d : PyData} (h : n ≤ m) (a : flatD n d) : flatD m d := ⟨a.1, Nat.le_trans a.2 h⟩
theorem flatD_shaped {n : Nat} {d : PyData} (a : flatD n d) (h : n ≤ 64 := by decide) : SeqAt.shaped d = true := by
  show (d.canLay0 && decide (d.depth ≤ 64)) = true
  rw [a.1, decide_eq_true (Nat.le_trans a.2 h)]
  rfl
theorem flatDs_map {α : Type} {n : Nat} {f : α → PyData} : ∀ (l : List α), (∀ x ∈ l, flatD n (f x)) → flatDs n (l.map f)
  | [], _ => flatDs_nil n
  | x :: r, h => flatDs_cons (h x List.mem_cons_self) (flatDs_map r fun y m => h y (List.mem_cons_of_mem _ m))

/-! ### rows, logs -/
abbrev Rw := Row (List PyData)
abbrev Lo := Lg (List PyData)
def deedD : Deed (List PyData) → PyData
  | .blank => .tuple [.str "blank"]
  | .mem ns => .tuple [.str "members", .tuple (ns.map .int)]
  | .call ds => .tuple (.str "call" :: ds)
def rowD (r : Rw) : PyData := .tuple [.int (r.1 : Nat), deedD r.2]
def headD (h : List Rw) : PyData := .list (h.map rowD)
/-- members: one to seven of nine, rising -/
structure GoodM (ns : List Int) : Prop where
  lo : 1 ≤ ns.length
  hi : ns.length ≤ 7
  inn : ∀ n ∈ ns, 0 ≤ n ∧ n ≤ 8
  rise : ns.Pairwise (· < ·)
def okD : Deed (List PyData) → Prop
  | .blank => True
  | .mem ns => GoodM ns
  | .call ds => flatDs 3 ds
theorem okD_flat : ∀ {d : Deed (List PyData)}, okD d → flatD 4 (deedD d)
  | .blank, _ => flatD_tup (flatDs_cons (flatD_str _ (by decide +kernel)) (flatDs_nil _))
  | .mem ns, _ => flatD_tup (flatDs_cons (flatD_str _ (by decide +kernel)) (flatDs_cons (flatD_tup (n := 2) (flatDs_map ns fun x _ => flatD_int _ x)) (flatDs_nil _)))
  | .call ds, h => flatD_tup (flatDs_cons (flatD_str _ (by decide +kernel)) h)
theorem rowD_flat {r : Rw} (h : okD r.2) : flatD 5 (rowD r) := flatD_tup (flatDs_cons (flatD_int _ _) (flatDs_cons (okD_flat h) (flatDs_nil _)))
theorem headD_flat {h : List Rw} (q : ∀ r ∈ h, okD r.2) : flatD 6 (headD h) := flatD_lst (flatDs_map h fun r m => rowD_flat (q r m))
theorem rowD_eqv {r s : Rw} (h : PyData.eqv (rowD r) (rowD s) = true) : r.1 = s.1 := by
  simp only [rowD, PyData.eqv, PyData.eqvAll, Bool.and_eq_true, beq_iff_eq] at h
  omega
theorem rowD_refl {r : Rw} (h : okD r.2) : PyData.eqv (rowD r) (rowD r) = true := SeqAt.eqv_refl _ (rowD_flat h).1
theorem headD_eqv : ∀ {a b : List Rw}, PyData.eqv (headD a) (headD b) = true → a.length = b.length ∧ ∀ (i : Nat) (r s : Rw), a[i]? = some r → b[i]? = some s → r.1 = s.1
  | [], [], _ => ⟨rfl, fun i r s h => by simp at h⟩
  | [], _ :: _, h => by simp [headD, PyData.eqv, PyData.eqvAll] at h
  | _ :: _, [], h => by simp [headD, PyData.eqv, PyData.eqvAll] at h
  | x :: a, y :: b, h => by
    have h1 : (PyData.eqv (rowD x) (rowD y) && PyData.eqvAll (a.map rowD) (b.map rowD)) = true := by
      simpa only [headD, PyData.eqv, PyData.eqvAll, List.map_cons] using h
    obtain ⟨h2, h3⟩ := Bool.and_eq_true_iff.mp h1
    obtain ⟨h4, h5⟩ := headD_eqv (a := a) (b := b) (by simpa only [headD, PyData.eqv] using h3)
    refine ⟨by rw [List.length_cons, List.length_cons, h4], fun i r s hr hs => ?_⟩
    cases i with
    | zero =>
      cases Option.some.inj hr
      cases Option.some.inj hs
      exact rowD_eqv h2
    | succ i => exact h5 i r s hr hs
def tS (b : Bool) : Str := if b = true then "book" else ""
def DeedAt (H : Hp) (b : Addr) : Deed (List PyData) → Prop
  | .blank => H b = some (.tup [.str "blank"])
  | .mem ns => ∃ m, H b = some (.tup [.str "members", .ref m]) ∧ H m = some (.tup (ns.map V.int))
  | .call ds => ∃ vs, H b = some (.tup (.str "call" :: vs)) ∧ Tps H vs ds
def RowAt (H : Hp) (v : V) (r : Rw) : Prop := ∃ a b, v = .ref a ∧ H a = some (.tup [.int (r.1 : Nat), .ref b]) ∧ DeedAt H b r.2
abbrev RowsAt (H : Hp) (vs : List V) (rs : List Rw) : Prop := Paired (RowAt H) vs rs
def FoldAt (H : Hp) (f : Addr) (L : Lo) : Prop := ∃ m, H f = some (.tup [.int (L.P : Nat), .int (L.R : Nat), .ref m, .str (tS L.T)]) ∧ H m = some (.tup (L.M.map V.int))
def LogAt (H : Hp) (v : V) (L : Lo) : Prop := ∃ a f r vs, v = .ref a ∧ H a = some (.tup [.ref f, .ref r]) ∧ FoldAt H f L ∧ H r = some (.tup vs) ∧ RowsAt H vs L.rows
section
variable {l : List Addr} {H H' : Hp}
theorem DeedAt.kp (k : Kp l H H') {b : Addr} : ∀ {d : Deed (List PyData)}, DeedAt H b d → DeedAt H' b d
  | .blank, h => k.tup _ _ h
  | .mem ns, ⟨m, h1, h2⟩ => ⟨m, k.tup _ _ h1, k.tup _ _ h2⟩
  | .call ds, ⟨vs, h1, h2⟩ => ⟨vs, k.tup _ _ h1, h2.kp k⟩
theorem RowAt.kp (k : Kp l H H') {v : V} {r : Rw} (h : RowAt H v r) : RowAt H' v r := let ⟨a, b, e, h1, h2⟩ := h; ⟨a, b, e, k.tup _ _ h1, h2.kp k⟩
theorem rows_kp (k : Kp l H H') {vs : List V} {rs : List Rw} (h : RowsAt H vs rs) : RowsAt H' vs rs := Paired.mapP h fun _ _ x => x.kp k
theorem FoldAt.kp (k : Kp l H H') {f : Addr} {L : Lo} (h : FoldAt H f L) : FoldAt H' f L := let ⟨m, h1, h2⟩ := h; ⟨m, k.tup _ _ h1, k.tup _ _ h2⟩
theorem LogAt.kp (k : Kp l H H') {v : V} {L : Lo} (h : LogAt H v L) : LogAt H' v L := let ⟨a, f, r, vs, e, h1, h2, h3, h4⟩ := h; ⟨a, f, r, vs, e, k.tup _ _ h1, h2.kp k, k.tup _ _ h3, rows_kp k h4⟩
theorem ints_tps : ∀ (ns : List Int), Tps H (ns.map V.int) (ns.map PyData.int)
  | [] => .nil
  | n :: r => .cons (.int n) (ints_tps r)
theorem DeedAt.tp {b : Addr} : ∀ {d : Deed (List PyData)}, DeedAt H b d → Tp H (.ref b) (deedD d)
  | .blank, h => .tup h (.cons (.str _) .nil)
  | .mem ns, ⟨m, h1, h2⟩ => .tup h1 (.cons (.str _) (.cons (.tup h2 (ints_tps ns)) .nil))
  | .call ds, ⟨vs, h1, h2⟩ => .tup h1 (.cons (.str _) h2)
theorem RowAt.tp {v : V} {r : Rw} (h : RowAt H v r) : Tp H v (rowD r) := by
  obtain ⟨a, b, rfl, h1, h2⟩ := h
  exact .tup h1 (.cons (.int _) (.cons h2.tp .nil))
theorem rows_tps : ∀ {vs : List V} {rs : List Rw}, RowsAt H vs rs → Tps H vs (rs.map rowD)
  | _, _, .nil => .nil
  | _, _, .cons h t => .cons h.tp (rows_tps t)
/-- a head: a list of rows that nobody changes -/
def HeadAt (H : Hp) (a : Addr) (h : List Rw) : Prop := ∃ vs, H a = some (.lst vs) ∧ RowsAt H vs h
theorem HeadAt.kp (k : Kp l H H') {a : Addr} {h : List Rw} (n : a ∉ l) (x : HeadAt H a h) : HeadAt H' a h := let ⟨vs, h1, h2⟩ := x; ⟨vs, k.lst _ _ n h1, rows_kp k h2⟩
theorem HeadAt.dp {K : PySem.W.Frag} {a : Addr} {h : List Rw} (x : HeadAt H a h) : Dp K H (.ref a) (headD h) := let ⟨_, h1, h2⟩ := x; .lst (SqL.of h1) (rows_tps h2).dp
end

end K7
namespace K7
open PySem PySem.Spec PyProof.Rows L2
/-! ### rules over these -/
section
variable {X : Cx} {e a b : Expr} {t t' ta tb : TE} {pos : Pos}
theorem PE_imp (h : PE X e t) (i : ∀ σ H Q, t' σ H Q → t σ H Q) : PE X e t' := ⟨fun pins s σ H Q I q => h.run pins s σ H Q I (i σ H Q q)⟩
/-- what a reading gives, and all that follows of it -/
def mo (ta : TE) : TE := fun σ H Q => ∃ Q0 : VK, ta σ H Q0 ∧ ∀ x H1, Q0 x H1 → Q x H1
theorem pe_mo (h : PE X e ta) : PE X e (mo ta) := ⟨fun pins s σ H Q I ⟨Q0, q, m⟩ => thn (h.run pins s σ H Q0 I q) fun u s1 ⟨x, H1, I1, r1, q1⟩ => ⟨x, H1, I1, r1, m x H1 q1⟩⟩
theorem pe_ixk (k : Nat) {j : Nat} {p2 : Pos} (ha : PE X a ta) : PE X (.Subscript a (.Constant (.int (k : Int)) j p2) pos) (tOp (rIxT X.K) ta (tC (.int (k : Int)))) := pe_ix ix_tup ha pe_int (fun _ _ => rfl)
/-- the k-th item of a tuple -/
def tIx (k : Nat) (ta : TE) : TE := fun σ H Q => ta σ H fun x H1 => ∃ a xs v, x = .ref a ∧ H1 a = some (.tup xs) ∧ xs[k]? = some v ∧ Q v H1
theorem pe_ixn (k : Nat) {j : Nat} {p2 : Pos} (ha : PE X a ta) : PE X (.Subscript a (.Constant (.int (k : Int)) j p2) pos) (tIx k ta) :=
  PE_imp (pe_ixk k (pe_mo ha)) fun _ _ _ q => ⟨_, q, fun _ _ ⟨a, xs, v, e, h, hv, q⟩ => ⟨a, xs, _, v, e, rfl, SqT.of h, atI_nat hv, q⟩⟩
/-- log[0][0], log[0][1], log[0][2], log[1], log[0] -/
def tP (ta : TE) : TE := fun σ H Q => ta σ H fun x H1 => ∃ L, LogAt H1 x L ∧ Q (.int (L.P : Nat)) H1
def tR (ta : TE) : TE := fun σ H Q => ta σ H fun x H1 => ∃ L, LogAt H1 x L ∧ Q (.int (L.R : Nat)) H1
def tM (ta : TE) : TE := fun σ H Q => ta σ H fun x H1 => ∃ L, LogAt H1 x L ∧ ∀ m, H1 m = some (.tup (L.M.map V.int)) → Q (.ref m) H1
def tRw (ta : TE) : TE := fun σ H Q => ta σ H fun x H1 => ∃ L, LogAt H1 x L ∧ ∀ r vs, H1 r = some (.tup vs) → RowsAt H1 vs L.rows → Q (.ref r) H1
def tF (ta : TE) : TE := fun σ H Q => ta σ H fun x H1 => ∃ L, LogAt H1 x L ∧ ∀ f, FoldAt H1 f L → Q (.ref f) H1
theorem pe_P {j j2 : Nat} {p2 p3 p4 : Pos} (ha : PE X a ta) : PE X (.Subscript (.Subscript a (.Constant (.int 0) j p2) p3) (.Constant (.int 0) j2 p4) pos) (tP ta) :=
  PE_imp (pe_ixn 0 (pe_ixn 0 (pe_mo ha))) fun _ _ _ q => ⟨_, q, fun _ _ ⟨L, ⟨a, f, r, vs, e, h1, ⟨m, h2, h3⟩, h4, h5⟩, q⟩ => ⟨a, _, _, e, h1, rfl, f, _, _, rfl, h2, rfl, q⟩⟩
theorem pe_R {j j2 : Nat} {p2 p3 p4 : Pos} (ha : PE X a ta) : PE X (.Subscript (.Subscript a (.Constant (.int 0) j p2) p3) (.Constant (.int 1) j2 p4) pos) (tR ta) :=
  PE_imp (pe_ixn 1 (pe_ixn 0 (pe_mo ha))) fun _ _ _ q => ⟨_, q, fun _ _ ⟨L, ⟨a, f, r, vs, e, h1, ⟨m, h2, h3⟩, h4, h5⟩, q⟩ => ⟨a, _, _, e, h1, rfl, f, _, _, rfl, h2, rfl, q⟩⟩
theorem pe_M {j j2 : Nat} {p2 p3 p4 : Pos} (ha : PE X a ta) : PE X (.Subscript (.Subscript a (.Constant (.int 0) j p2) p3) (.Constant (.int 2) j2 p4) pos) (tM ta) :=
  PE_imp (pe_ixn 2 (pe_ixn 0 (pe_mo ha))) fun _ _ _ q => ⟨_, q, fun _ _ ⟨L, ⟨a, f, r, vs, e, h1, ⟨m, h2, h3⟩, h4, h5⟩, q⟩ => ⟨a, _, _, e, h1, rfl, f, _, _, rfl, h2, rfl, q m h3⟩⟩
theorem pe_rows {j : Nat} {p2 : Pos} (ha : PE X a ta) : PE X (.Subscript a (.Constant (.int 1) j p2) pos) (tRw ta) :=
  PE_imp (pe_ixn 1 (pe_mo ha)) fun _ _ _ q => ⟨_, q, fun _ _ ⟨L, ⟨a, f, r, vs, e, h1, h2, h4, h5⟩, q⟩ => ⟨a, _, _, e, h1, rfl, q r vs h4 h5⟩⟩
theorem pe_fold {j : Nat} {p2 : Pos} (ha : PE X a ta) : PE X (.Subscript a (.Constant (.int 0) j p2) pos) (tF ta) :=
  PE_imp (pe_ixn 0 (pe_mo ha)) fun _ _ _ q => ⟨_, q, fun _ _ ⟨L, ⟨a, f, r, vs, e, h1, h2, h4, h5⟩, q⟩ => ⟨a, _, _, e, h1, rfl, q f h2⟩⟩
/-- row[0]; row[1] -/
def tRg (ta : TE) : TE := fun σ H Q => ta σ H fun x H1 => ∃ r, RowAt H1 x r ∧ Q (.int (r.1 : Nat)) H1
theorem pe_rg {j : Nat} {p2 : Pos} (ha : PE X a ta) : PE X (.Subscript a (.Constant (.int 0) j p2) pos) (tRg ta) :=
  PE_imp (pe_ixn 0 (pe_mo ha)) fun _ _ _ q => ⟨_, q, fun _ _ ⟨r, ⟨a, b, e, h1, h2⟩, q⟩ => ⟨a, _, _, e, h1, rfl, q⟩⟩

/-! slices and sums of tuples: some tuple of these items, all else as it was -/
def rSlG : V → Option Int → Option Int → Hp → VK → Prop := fun x lo hi H Q => ∃ a xs, x = .ref a ∧ H a = some (.tup xs) ∧ ∀ p H', Same H H' → H' p = some (.tup (cutV xs lo hi)) → Q (.ref p) H'
theorem cut_whole {xs : List V} {lo hi : Option Int} (h : HT.sIx xs.length 0 lo = 0 ∧ HT.sIx xs.length xs.length hi = xs.length) : cutV xs lo hi = xs := by
  unfold cutV
  rw [h.1, h.2, List.drop_zero, Nat.sub_zero, List.take_length]
theorem sl_tupG : SlR X rSlG := by
  intro pins s σ H x v vl vu lo hi sl Q I rx hs pl pu h
  obtain ⟨a, xs, e, hx, q⟩ := h
  exact sl_tupA pins s σ H x v vl vu lo hi sl Q I rx hs pl pu ⟨a, xs, e, SqT.of hx, fun w => q a H (Same.refl H) (by rw [cut_whole w]; exact hx), fun _ p np => q p _ (new_ np) upd_same⟩
def rCatG : R2 := fun x y H Q => ∃ a b xs ys, x = .ref a ∧ y = .ref b ∧ H a = some (.tup xs) ∧ H b = some (.tup ys) ∧ xs.length + ys.length ≤ sizeLine ∧ ∀ p H', Same H H' → H' p = some (.tup (xs ++ ys)) → Q (.ref p) H'
theorem op_catG : OpR X (binaryOp .Add) rCatG := by
  intro pins s σ H x y v u Q I rx ry h
  obtain ⟨a, b, xs, ys, e1, e2, hx, hy, hz, q⟩ := h
  refine op_catA pins s σ H x y v u Q I rx ry ⟨a, b, xs, ys, e1, e2, SqT.of hx, SqT.of hy, hz, fun e => ?_, fun _ e => ?_, fun _ _ p np => q p _ (new_ np) upd_same⟩
  · exact q b H (Same.refl H) (by rw [e, List.nil_append]; exact hy)
  · exact q a H (Same.refl H) (by rw [e, List.append_nil]; exact hx)
theorem cut_to {xs : List V} {n : Nat} (h : n ≤ xs.length) : cutV xs none (some (n : Int)) = xs.take n := by
  unfold cutV
  rw [HT.sIx_none, HT.sIx_nat, List.drop_zero, Nat.sub_zero, Nat.min_eq_left h]
theorem cut_from {xs : List V} {n : Nat} : cutV xs (some (n : Int)) none = xs.drop n := by
  unfold cutV
  rw [HT.sIx_none, HT.sIx_nat]
  by_cases h : n ≤ xs.length
  · rw [Nat.min_eq_left h, List.take_of_length_le (by rw [List.length_drop]; omega)]
  · rw [Nat.min_eq_right (by omega), Nat.sub_self, List.take_zero, List.drop_of_length_le (by omega)]
theorem cut_mid {xs : List V} {n m : Nat} (h : n ≤ xs.length) : cutV xs (some (n : Int)) (some ((n + m : Nat) : Int)) = (xs.drop n).take m := by
  unfold cutV
  rw [HT.sIx_nat, HT.sIx_nat, Nat.min_eq_left h]
  by_cases h2 : n + m ≤ xs.length
  · rw [Nat.min_eq_left h2, Nat.add_sub_cancel_left]
  · rw [Nat.min_eq_right (by omega), List.take_of_length_le (by rw [List.length_drop]; omega), List.take_of_length_le (by rw [List.length_drop]; omega)]
end

section
variable {X : Cx}
def rSlTo : V → Option Int → Option Int → Hp → VK → Prop := fun x lo hi H Q => ∃ a xs, ∃ n : Nat, x = .ref a ∧ H a = some (.tup xs) ∧ lo = none ∧ hi = some (n : Int) ∧ n ≤ xs.length ∧ ∀ p H', Same H H' → H' p = some (.tup (xs.take n)) → Q (.ref p) H'
theorem sl_to : SlR X rSlTo := by
  intro pins s σ H x v vl vu lo hi sl Q I rx hs pl pu h
  obtain ⟨a, xs, n, e, hx, rfl, rfl, hn, q⟩ := h
  exact sl_tupG pins s σ H x v vl vu _ _ sl Q I rx hs pl pu ⟨a, xs, e, hx, fun p H' s h => q p H' s (by rw [h, cut_to hn])⟩
def rSlFrom : V → Option Int → Option Int → Hp → VK → Prop := fun x lo hi H Q => ∃ a xs, ∃ n : Nat, x = .ref a ∧ H a = some (.tup xs) ∧ lo = some (n : Int) ∧ hi = none ∧ ∀ p H', Same H H' → H' p = some (.tup (xs.drop n)) → Q (.ref p) H'
theorem sl_from : SlR X rSlFrom := by
  intro pins s σ H x v vl vu lo hi sl Q I rx hs pl pu h
  obtain ⟨a, xs, n, e, hx, rfl, rfl, q⟩ := h
  exact sl_tupG pins s σ H x v vl vu _ _ sl Q I rx hs pl pu ⟨a, xs, e, hx, fun p H' s h => q p H' s (by rw [h, cut_from])⟩
end

/-! ### enumerate(tuple), by what the library says of any source -/
section
/-- the record of enumerate over the iterator at `i` -/
abbrev enumO (i : Addr) : Obj := { cls := .type "enumerate", data := .fields #[.none, .bool false, .ref i, rawInt 0, .none, .none] }
theorem enum_made {src : Value} {ito : Obj} {At : Heap → Prop} (bg : Begins src ito At) :
    Meets (Builtin.«enumerate.__new__» ⟨[.type "enumerate", src], []⟩) fun _ R sh =>
      At sh.heap ∧ R (.ok (.ret (.ref (sh.heap.push ito).objs.size))) { sh with heap := (sh.heap.push ito).push (enumO sh.heap.objs.size) } := by
  refine .of_wp fun prog wd A R sh both => ?_
  obtain ⟨hp, gs, dr, tk, os⟩ := sh
  obtain ⟨here, done⟩ := both
  have subE := sub_enumerate
  have itr : ∀ {B : Around} {Er : Value → Shared → Prop} {Qi : Value → Shared → Prop},
      Qi (.ref hp.objs.size) ⟨hp.push ito, gs, dr, tk, os⟩ → wpAny (model prog wd) B (pyIter src) Qi Er ⟨hp, gs, dr, tk, os⟩ := by
    intro B Er Qi hq
    exact bg.iter prog wd B Er ⟨hp, gs, dr, tk, os⟩ Qi here hq
  wp_walk using itr
  refine wpAny_stack_any fun frames => wpAny_pure ?_
  split
  · rename_i cl _ _ _ _ _
    rcases hcl : (cl == Value.type "enumerate") <;>
      (wp_walk using itr
       exact ⟨_, rfl, done⟩)
  · wp_walk using itr
    exact ⟨_, rfl, done⟩
/-- enumerate(t) of a tuple: a new iterator and a new record over it -/
theorem enum_tup {prog : Program} {wd : World} {A : Around} {Er : Value → Shared → Prop} {sh : Shared} {a : Addr} {items : Array Value} {Q : Value → Shared → Prop} (ht : sh.heap.IsTuple a items)
    (next : ∀ hp, (∃ old, IsEnum hp (sh.heap.objs.size + 1) sh.heap.objs.size ((0 : Nat) : Int) old) → hp.IsTupleIter sh.heap.objs.size a 0 → (∀ b ob, sh.heap.get? b = some ob → hp.get? b = some ob) → Q (.ref (sh.heap.objs.size + 1)) { sh with heap := hp }) :
    wpAny (model prog wd) A (call (.type "enumerate") [.ref a]) Q Er sh := by
  have made := enum_made (begins_tuple a items)
  refine callType_new F.called_enumerate (by decide) (F.typeCall_enumerate_1 _)
    (F.newCall_enumerate_1 _) (fun ob => F.args_object_init_2 ob _) F.entry_enumerate_new made ⟨ht, ?_⟩
  generalize hi : ({ cls := .type "tuple_iterator", data := .fields #[.ref a, .int 0 0] } : Obj) = ito
  have sz : (sh.heap.push ito).objs.size = sh.heap.objs.size + 1 := Heap.size_push ..
  have fr : ito.isFreed = false := by
    rw [← hi]
    rfl
  have top : ((sh.heap.push ito).push (enumO sh.heap.objs.size)).get? (sh.heap.objs.size + 1) = some (enumO sh.heap.objs.size) := by
    have := Heap.get?_push_size (sh.heap.push ito) (o := enumO sh.heap.objs.size) rfl
    rwa [sz] at this
  show Shared.TypeIs _ _ _ ∧ Q _ _
  rw [sz]
  refine ⟨⟨_, top, rfl⟩, next _ ⟨.none, top⟩ ⟨ito, ?_, ?_, ?_⟩ fun b ob hb => ?_⟩
  · exact Heap.get?_push_of_some _ (Heap.get?_push_size _ fr)
  · rw [← hi]
  · rw [← hi]
    rfl
  · exact Heap.get?_push_of_some _ (Heap.get?_push_of_some _ hb)
/-- what enumerate over the tuple at a gives: its items in order, each in a new pair behind its number -/
def IteT (K : PySem.W.Frag) (a : Addr) : It where
  go := fun i H => ∃ xs, SqT K H a xs ∧ i < xs.length
  yld := fun i H v H' => ∃ T x, (v = .ref T ∧ H T = none) ∧ H' = upd H T (.tup [.int (i : Nat), x]) ∧ ∀ xs, SqT K H a xs → xs[i]? = some x
  stop := fun i H => ∃ xs, SqT K H a xs ∧ i = xs.length
/-- the tuple lies apart from enumerate's own records -/
theorem tup_apart {hp : Heap} {a e it : Addr} {i : Nat} {c : Int} {old : Value} {items : Array Value} (ht : hp.IsTuple a items) (he : IsEnum hp e it c old) (hi : hp.IsTupleIter it a i) : a ≠ e ∧ a ≠ it := by
  obtain ⟨ot, h1, h2, _⟩ := ht
  obtain ⟨oi, h3, h4, _⟩ := hi
  constructor
  · rintro rfl
    cases h1.symm.trans he
    simp at h2
  · rintro rfl
    cases h1.symm.trans h3
    rw [h2] at h4
    simp at h4
theorem turn_enumT {P : Program} {wd : World} {K : PySem.W.Frag} {elts : List Expr} {kk : Nat} {tpos : Pos} (a e it : Addr) (ne : e ≠ it) :
    Turn P wd K (.Tuple elts kk tpos) (IteT K a) [e, it] e (fun i hp => (∃ old, IsEnum hp e it ((i : Nat) : Int) old) ∧ hp.IsTupleIter it a i) := by
  have zero : ∀ i : Nat, (0 : Int) + ((i : Nat) : Int) = ((i : Nat) : Int) := fun i => Int.zero_add _
  refine ⟨List.mem_cons_self, ?_, ?_, ?_, ?_, ?_⟩
  · rintro i hp ⟨⟨old, hE⟩, oi, hI, _, dI⟩ b hb
    rcases List.mem_cons.mp hb with rfl | hb
    · exact ⟨_, hE, fun _ z => nomatch z⟩
    · rw [List.mem_singleton.mp hb]
      exact ⟨oi, hI, fun _ z => by rw [dI] at z; cases z⟩
  · rintro i hp hp' ⟨⟨old, hE⟩, hI⟩ keep
    exact ⟨⟨old, keep e List.mem_cons_self _ hE⟩, hI.at (keep it (List.mem_cons_of_mem _ List.mem_cons_self))⟩
  · rintro X rfl rfl rfl calm i pins sh σ H Er I own ⟨⟨old, hE⟩, hI⟩ ⟨xs, hx, hlt⟩
    obtain ⟨its, rel, tupAt, _⟩ := I.tuple hx
    have tupAt : sh.heap.IsTuple a its.toArray := tupAt
    obtain ⟨ae, ai⟩ := tup_apart tupAt hE hI
    have lenq : its.length = xs.length := rel.length.symm
    have G := GoesN.enumFrom (elts := elts) (x1 := kk) (pos := tpos) 0 (Draws.tuple (prog := X.prog) (w := X.w) (A := X.A.in1) (I.ok.hd calm) it a ai its.toArray) e ne (by simp [ne, Ne.symm ae]) (by simp)
    refine G.goes i sh _ Er (by rw [List.size_toArray]; omega) ⟨⟨old, by rw [zero]; exact hE⟩, hI, tupAt⟩ ?_
    rintro v hp tk ⟨T, tok, y, rfl, newT, item, pair⟩ ⟨⟨old2, hE2⟩, hI2, _⟩ rest _
    rw [zero] at pair hE2
    have hxi : xs[i]? = some xs[i] := List.getElem?_eq_getElem hlt
    generalize xs[i] = x at hxi
    obtain ⟨u, hu, ru⟩ := rel.get hxi
    obtain rfl : y = u := by
      have item : its.toArray[i]? = some y := item
      rw [List.getElem?_toArray, hu] at item
      exact (Option.some.inj item).symm
    have obj : ObjOk X.prog X.w (upd H T (.tup [.int (i : Nat), x])) hp T (.tup [.int (i : Nat), x]) := by
      refine ⟨by show 2 ≤ sizeLine; decide, [.int i tok, y], ?_, pair⟩
      exact .cons ⟨tok, rfl⟩ (.cons ru .nil)
    have noT : H T = none := I.hok.fresh newT
    refine ⟨.ref T, _, I.turnedNew (t' := tk) (ch := [e, it]) rest own newT obj, rfl, ⟨T, x, ⟨rfl, noT⟩, rfl, fun ys hy => ?_⟩, ⟨⟨old2, hE2⟩, hI2⟩, fun b hb => ?_⟩
    · rw [I.tuple_inj hy hx]
      exact hxi
    · have there : ∃ ob, sh.heap.get? b = some ob := by
        rcases List.mem_cons.mp hb with rfl | hb
        · exact ⟨_, hE⟩
        · rw [List.mem_singleton.mp hb]
          obtain ⟨oi, hoi, _⟩ := hI
          exact ⟨oi, hoi⟩
      obtain ⟨ob, hob⟩ := there
      rw [upd_ne (Nat.ne_of_lt (Nat.lt_of_lt_of_le (Heap.lt_size hob) newT))]
      exact (own b hb).1
  · rintro X rfl rfl rfl calm i pins sh σ H Er I own ⟨⟨old, hE⟩, hI⟩ ⟨xs, hx, rfl⟩
    obtain ⟨its, rel, tupAt, _⟩ := I.tuple hx
    have tupAt : sh.heap.IsTuple a its.toArray := tupAt
    obtain ⟨ae, ai⟩ := tup_apart tupAt hE hI
    have lenq : xs.length = its.toArray.size := by rw [List.size_toArray, rel.length]
    rw [lenq] at hE hI
    have D := Draws.tuple (prog := X.prog) (w := X.w) (A := X.A.in1) (I.ok.hd calm) it a ai its.toArray
    refine wpAny_pyNext_enum_endD D hE ⟨hI, tupAt⟩ fun hp ext => ⟨rfl, ?_⟩
    obtain ⟨o1, o2, _, o4, o5, o6⟩ := own it (List.mem_cons_of_mem _ List.mem_cons_self)
    exact I.turned (t' := sh.toks) (fun b ob nb hb => ext b ob nb hb) o1 o2 o4 o5 o6
  · rintro A i sh Q Er ⟨⟨old, hE⟩, _⟩ q
    exact wpAny_pyIter_enum hE q
def iEnumT (K : PySem.W.Frag) (ta : TA) : TI := fun σ H R => ta σ H fun vs H1 => ∃ a xs, vs = [.ref a] ∧ SqT K H1 a xs ∧ R (IteT K a) H1
theorem pi_enumT {X : Cx} {src : Expr} {ta : TA} {p pos tpos : Pos} {elts : List Expr} {kk : Nat} (glob : Gl X "enumerate") (free : X.mg "enumerate" = none) (args : PA X [src] ta) (one : starEach [src] X.env = [(false, eval src X.env)] := by rfl) :
    PI X (.Tuple elts kk tpos) (.Call (.Name "enumerate" p) [src] [] pos) (iEnumT X.K ta) := by
  constructor
  intro pins sh σ H R I h
  have run := args.run pos pins sh σ H _ I h
  refine Call_ (ld_blt I glob free boot_enumerate (PyProof.Rows.callWith_type1 (thn run ?_) one rfl))
  rintro us s1 ⟨vs, H1, I1, rel, a, xs, rfl, hx, q⟩
  obtain rfl := rel.ref1
  obtain ⟨its, _, tupAt, _⟩ := I1.tuple hx
  refine enum_tup tupAt fun hp hE hI keep => ?_
  obtain ⟨old, hE'⟩ := hE
  refine wpAny_pyIter_enum hE' ⟨_, [s1.heap.objs.size + 1, s1.heap.objs.size], _, IteT X.K a, H1, rfl, I1.kept (t' := s1.toks) keep, turn_enumT a _ _ (Nat.succ_ne_self _), ⟨⟨old, hE'⟩, hI⟩, fun b hb => ?_, q⟩
  have big : s1.heap.objs.size ≤ b := by
    simp only [List.mem_cons, List.not_mem_nil, or_false] at hb
    rcases hb with rfl | rfl
    · exact Nat.le_succ _
    · exact Nat.le_refl _
  exact I1.fpOk big (I1.hok.fresh big)
theorem walk_enumT {K : PySem.W.Frag} {a : Addr} {xs : List V} : Walk (IteT K a) xs.length (fun H => SqT K H a xs) (YPair (fun i => some (.int (i : Nat))) (fun i => xs[i]?)) where
  goes := fun i H lt q => ⟨xs, q, lt⟩
  stops := fun H q => ⟨xs, q, rfl⟩
  yields := by
    rintro i H v H' - q ⟨T, x, ⟨e1, e2⟩, e3, all⟩
    exact ⟨T, _, x, e1, e2, e3, rfl, all xs q⟩
theorem walk_zipT {K : PySem.W.Frag} {a b : Addr} {xs ys : List V} {n : Nat} (hn : n = min xs.length ys.length) : Walk (RZ.ItzT K a b) n (fun H => SqT K H a xs ∧ SqT K H b ys) (YPair (fun i => xs[i]?) (fun i => ys[i]?)) where
  goes := by
    rintro i H lt ⟨qx, qy⟩
    have lx := List.getElem?_eq_getElem (l := xs) (i := i) (by omega)
    have ly := List.getElem?_eq_getElem (l := ys) (i := i) (by omega)
    exact ⟨_, _, _, _, qx, qy, lx, ly⟩
  stops := by
    rintro H ⟨qx, qy⟩
    exact ⟨_, _, qx, qy, by omega⟩
  yields := by
    rintro i H v H' - ⟨qx, qy⟩ ⟨T, x, y, e1, e2, e3, all1, all2⟩
    exact ⟨T, x, y, e1, e2, e3, all1 _ qx, all2 _ qy⟩
/-- a comprehension without tests: Pv tells the heap behind so many turns -/
theorem lc_yes {J : It} {n : Nat} {G : Hp → Prop} {Y : Nat → Hp → V → Hp → Prop} (w : Walk J n G Y) {g : TG} {te : TE} {own : List Nat} {σ : L2.St} {H1 : Hp} {D : Addr} {after : Hp → Prop} (Pv : Nat → Hp → Prop) (start : Pv 0 (upd H1 D (.lst []))) (still : ∀ i H, i ≤ n → Pv i H → G H)
    (turn : ∀ i x H H', i < n → Pv i H → Y i H x H' → g x (wipe σ own) H' fun σ2 H2 => wipe σ2 own = wipe σ own ∧ te σ2 H2 fun y H4 => ∃ made, H4 D = some (.lst made) ∧ made.length < sizeLine ∧ Pv (i + 1) (upd H4 D (.lst (made ++ [y]))))
    (fin : ∀ H, Pv n H → after H) : ∃ W : Nat → Nat → Hp → Prop, (∃ m, W 0 m (upd H1 D (.lst []))) ∧ ∀ i m H, W i m H → (J.stop i H ∧ after H) ∨ (J.go i H ∧ ∃ Nx : Hp → Prop, (∀ H', Nx H' → ∃ m', m' < m ∧ W (i + 1) m' H') ∧ ∀ x H', J.yld i H x H' →
      g x (wipe σ own) H' fun σ2 H2 => wipe σ2 own = wipe σ own ∧ tYes σ2 H2 fun b H3 => if b = true then te σ2 H3 fun y H4 => ∃ acc, H4 D = some (.lst acc) ∧ acc.length < sizeLine ∧ Nx (upd H4 D (.lst (acc ++ [y]))) else Nx H3) := by
  refine lc_it w Pv start still (fun i x H H' hi p y => ?_) fin
  have q := turn i x H H' hi p y
  unfold tYes
  simp only [if_true]
  exact q
end
end K7
namespace K7
open PySem PySem.Spec PyProof.Rows L2
section
variable {P : Program} {w : World} {K : PySem.W.Frag} {mg : Str → Option Value} {base : Heap} {f : Addr} {fd : FuncData}
theorem q_eq {Q : VK} {H : Hp} {v v' : V} (e : v = v') (q : Q v' H) : Q v H := by
  rw [e]
  exact q
/-! ### is_whole, is_among -/
def sp_is_whole : Sp := fun vs H Q _ => ∃ i : Int, vs = [.int i] ∧ Q (.bl true) H
theorem ok_is_whole (T : Txt K mg) (F : Fun K "is_whole" "is_whole" s_is_whole f fd) : FnOk P w K mg base CX0 1 f fd ["thing"] sp_is_whole := by
  refine F.ok sc_is_whole (fun vs H Q E h => ?_) (fun cdv A outer s H vs Q E hr h => ?_)
  · obtain ⟨i, rfl, _⟩ := h
    rfl
  · obtain ⟨i, rfl, q⟩ := h
    refine ⟨_, pss_one (ps_ret (pe_and
      (pe_callB call_isi (by rfl) T.n_isinstance (by decide +kernel) (pa_cons (pv 0) (pa_cons (pe_bltn (v := .ty "int") (by rfl) T.n_int (by decide +kernel) rfl) pa_nil)))
      (pe_one (pe_not (pe_callB call_isi (by rfl) T.n_isinstance (by decide +kernel) (pa_cons (pv 0) (pa_cons (pe_bltn (v := .ty "bool") (by rfl) T.n_bool (by decide +kernel) rfl) pa_nil))))))), ?_⟩
    refine ⟨_, rfl, _, _, _, _, true, rfl, ClsV.ty "int", .base (.int i), kit_ty (by decide +kernel), true, rfl, iteT ?_⟩
    exact ⟨_, rfl, _, _, _, _, false, rfl, ClsV.ty "bool", .base (.int i), kit_ty (by decide +kernel), false, rfl, q⟩
def sp_is_among : Sp := fun vs H Q _ => ∃ (i lo hi : Int) (b : Bool), vs = [.int i, .int lo, .int hi] ∧ decide (lo ≤ i ∧ i ≤ hi) = b ∧ Q (.bl b) H
theorem ok_is_among (T : Txt K mg) (F : Fun K "is_among" "is_among" s_is_among f fd) : FnOk P w K mg base CX0 2 f fd ["thing", "least", "most"] sp_is_among := by
  obtain ⟨f1, d1, D1⟩ := T.d_is_whole
  refine F.ok sc_is_among (fun vs H Q E h => ?_) (fun cdv A outer s H vs Q E hr h => ?_)
  · obtain ⟨i, lo, hi, b, rfl, _⟩ := h
    rfl
  · obtain ⟨i, lo, hi, b, rfl, e, q⟩ := h
    refine ⟨_, pss_one (ps_ret (pe_and (cl D1 (ok_is_whole T D1.fn) hr (pa_cons (pv 0) pa_nil)) (pe_one (pe_chain op_le op_le (pv 1) (pv 0) (pv 2))))), ?_⟩
    refine ⟨_, rfl, i, rfl, true, rfl, iteT ?_⟩
    refine ⟨_, rfl, _, rfl, _, _, rfl, rfl, _, rfl, ite2 (fun h1 => ?_) (fun h1 => ?_)⟩
    · refine ⟨_, rfl, _, _, rfl, rfl, q_eq (congrArg V.bl ?_) q⟩
      have h2 := of_decide_eq_true h1
      rw [← e, decide_eq_decide]
      exact ⟨fun h => ⟨h2, h⟩, fun h => h.2⟩
    · refine q_eq (congrArg V.bl ?_) q
      rw [← e]
      exact (decide_eq_false fun h => h1 (decide_eq_true h.1)).symm
/-! ### members -/
theorem size_small {n : Nat} (h : n ≤ 1000) : n ≤ sizeLine := Nat.le_trans h (by decide)
theorem size_lt {n : Nat} (h : n ≤ 1000) : n < sizeLine := Nat.lt_of_le_of_lt h (by decide)
def sp_are_members : Sp := fun vs H Q _ => ∃ (a : Addr) (ns : List Int), vs = [.ref a] ∧ H a = some (.tup (ns.map V.int)) ∧ GoodM ns ∧ ∀ H', Same H H' → Q (.bl true) H'
theorem ok_are_members (T : Txt K mg) (F : Fun K "are_members" "are_members" s_are_members f fd) : FnOk P w K mg base CX0 3 f fd ["thing"] sp_are_members := by
  obtain ⟨f1, d1, D1⟩ := T.d_is_among
  obtain ⟨tm, cM⟩ := T.c_MOST_MEMBERS
  obtain ⟨ts, cS⟩ := T.c_LAST_SCRIBE
  refine F.ok sc_are_members (fun vs H Q E h => ?_) (fun cdv A outer s H vs Q E hr h => ?_)
  · obtain ⟨a, ns, rfl, _⟩ := h
    rfl
  · obtain ⟨a, ns, rfl, ha, G, q⟩ := h
    refine ⟨_, pss_cons (ps_if (PW.pt (pw_or (pt_not (pt_val (pe_callB call_isi (by rfl) T.n_isinstance (by decide +kernel) (pa_cons (pv 0) (pa_cons (pe_bltn (v := .ty "tuple") (by rfl) T.n_tuple (by decide +kernel) rfl) pa_nil)))))
        (pw_or1 (pt_not (pt_chain op_le op_le pe_int (pe_callB call_len_seq (by rfl) T.n_len PySem.boot_len (pa_cons (pv 0) pa_nil)) (pe_glob (v := .int 7) rfl cM ⟨_, rfl⟩)))))) (pss_one (ps_ret pe_bl)) pss_nil)
      (pss_cons (ps_if (pt_not (pt_val (pe_callB (cr_all rfl) (by rfl) T.n_all (by decide +kernel) (pa_cons
          (pe_lc (own := [("one", 1)]) (g := gName 1) (tt := tYes) rfl sc_are_members.nd (pi_tup (pv 0)) (blkOk_by (N := N_are_members) (sc := defScope s_are_members) (by decide +kernel)) (fun _ _ _ _ _ => pg_name (i := 1) sc_are_members.nd rfl (Or.inl rfl)) (fun _ _ _ _ _ => pts_nil)
            (fun _ _ _ _ _ => cl D1 (ok_is_among T D1.fn) hr (pa_cons (pv 1) (pa_cons pe_int (pa_cons (pe_glob (v := .int 8) rfl cS ⟨_, rfl⟩) pa_nil))))) pa_nil)))) (pss_one (ps_ret pe_bl)) pss_nil)
      (pss_one (ps_ret (pe_callB (cr_all rfl) (by rfl) T.n_all (by decide +kernel) (pa_cons
          (pe_lc (own := [("one", 1), ("other", 2)]) (g := gTup K 2 (gCons (gName 1) (gCons (gName 2) gNil))) (tt := tYes) rfl sc_are_members.nd (RZ.pi_zipA (by rfl) T.n_zip (pa_cons (pv 0) (pa_cons (pe_slice sl_tupG (pv 0) (po_some pe_int) po_none) pa_nil)))
            (blkOk_by (N := N_are_members) (sc := defScope s_are_members) (by decide +kernel)) (fun _ _ _ _ _ => pg_tup rfl (pgs_cons (pg_name (i := 1) sc_are_members.nd rfl (Or.inl rfl)) (pgs_cons (pg_name (i := 2) sc_are_members.nd rfl (Or.inl rfl)) pgs_nil))) (fun _ _ _ _ _ => pts_nil)
            (fun _ _ _ _ _ => pe_cmpR op_lt (pv 1) (pv 2) (nomark _))) pa_nil))))), ?_⟩
    have hl := List.length_map (f := V.int) (as := ns)
    have g1 := G.lo
    have g2 := G.hi
    -- not isinstance(thing, tuple) or not 1 <= len(thing) <= MOST_MEMBERS
    refine ⟨_, rfl, _, _, _, _, true, rfl, ClsV.ty "tuple", .base (.tup ha), kit_ty (by decide +kernel), true, rfl, iteF ?_⟩
    refine ⟨_, rfl, a, _, rfl, .inr (SqT.of ha), _, _, rfl, rfl, true, congrArg V.bl (decide_eq_true (by omega)), iteT ?_⟩
    refine ⟨_, _, rfl, rfl, true, congrArg V.bl (decide_eq_true (by omega)), iteF ?_⟩
    -- all([is_among(one, 0, LAST_SCRIBE) for one in thing])
    refine ⟨_, rfl, a, rfl, ⟨_, SqT.of ha⟩, fun D nD => lc_yes (walk_tup (xs := ns.map V.int)) (fun i H1 => Same H H1 ∧ H1 D = some (.lst ((List.replicate i true).map V.bl))) ⟨new_ nD, upd_same⟩ (fun i H1 _ p => SqT.of (p.1 _ _ ha)) (fun i x H1 H1' hi p y => ?_) (fun H1 p => ?_)⟩
    · obtain ⟨rfl, hx⟩ := y
      obtain ⟨n, hn, rfl⟩ := List.mem_map.mp (List.mem_of_getElem? hx)
      refine ⟨rfl, ?_⟩
      refine ⟨_, rfl, n, 0, 8, true, rfl, decide_eq_true (G.inn n hn), _, p.2, ?_, ?_⟩
      · have := (List.getElem?_eq_some_iff.mp hx).1
        rw [List.length_map, List.length_replicate]
        exact size_lt (by omega)
      · refine ⟨same_mut p.1 nD, ?_⟩
        rw [upd_same, List.replicate_succ', List.map_append]
        rfl
    · refine ⟨D, _, rfl, SqL.of p.2, true, congrArg V.bl ?_, iteF ?_⟩
      · rw [List.all_replicate]
        simp
      -- all([one < other for one, other in zip(thing, thing[1:])])
      refine ⟨_, rfl, _, rfl, 1, rfl, a, _, rfl, p.1 _ _ ha, fun c H2 s2 hc => ?_⟩
      rw [show (some (1 : Int)) = some ((1 : Nat) : Int) from rfl, cut_from] at hc
      have ha2 := s2 _ _ (p.1 _ _ ha)
      refine ⟨a, c, _, _, rfl, .inr ⟨SqT.of ha2, SqT.of hc, fun D2 nD2 => lc_yes (walk_zipT (n := ns.length - 1) (by rw [List.length_drop, hl]; omega)) (fun i H3 => Same H2 H3 ∧ H3 D2 = some (.lst ((List.replicate i true).map V.bl))) ⟨new_ nD2, upd_same⟩
        (fun i H3 _ p3 => ⟨SqT.of (p3.1 _ _ ha2), SqT.of (p3.1 _ _ hc)⟩) (fun i x H3 H4 hi p3 y => ?_) (fun H3 p3 => ?_)⟩⟩
      · obtain ⟨t, u, v, rfl, nt, rfl, hu, hv⟩ := y
        have h1 : i < ns.length := by omega
        have h2 : i + 1 < ns.length := by omega
        have eu : u = .int ns[i] := by
          have hu' : (ns.map V.int)[i]? = some u := hu
          rw [List.getElem?_map, List.getElem?_eq_getElem h1] at hu'
          exact (Option.some.inj hu').symm
        have ev : v = .int ns[i + 1] := by
          have hv' : ((ns.map V.int).drop 1)[i]? = some v := hv
          rw [List.getElem?_drop, List.getElem?_map, Nat.add_comm, List.getElem?_eq_getElem h2] at hv'
          exact (Option.some.inj hv').symm
        subst eu
        subst ev
        refine ⟨t, _, rfl, SqT.of upd_same, rfl, _, _, rfl, _, _, rfl, rfl, rfl, ?_⟩
        have hD2 : (upd H3 t (.tup [V.int ns[i], V.int ns[i + 1]])) D2 = some (.lst ((List.replicate i true).map V.bl)) := by
          rw [upd_ne (ne_of_none p3.2 nt)]
          exact p3.2
        refine ⟨_, rfl, _, rfl, _, _, rfl, rfl, _, hD2, ?_, ?_⟩
        · rw [List.length_map, List.length_replicate]
          exact size_lt (by omega)
        · refine ⟨same_mut (p3.1.trans (new_ nt)) nD2, ?_⟩
          rw [upd_same, List.replicate_succ', List.map_append]
          have hlt : ns[i] < ns[i + 1] := List.pairwise_iff_getElem.mp G.rise i (i + 1) h1 h2 (by omega)
          show some (HO.lst (_ ++ [V.bl (decide (ns[i] < ns[i + 1]))])) = _
          rw [decide_eq_true hlt]
          rfl
      · refine ⟨D2, _, rfl, SqL.of p3.2, ?_⟩
        rw [List.all_replicate]
        refine q_eq (v' := .bl true) (by simp) (q H3 ((p.1.trans s2).trans p3.1))
def sp_need_members : Sp := fun vs H Q _ => ∃ (a : Addr) (ns : List Int), vs = [.ref a] ∧ H a = some (.tup (ns.map V.int)) ∧ GoodM ns ∧ ∀ H', Same H H' → Q .non H'
theorem ok_need_members (T : Txt K mg) (F : Fun K "need_members" "need_members" s_need_members f fd) : FnOk P w K mg base CX0 4 f fd ["thing"] sp_need_members := by
  obtain ⟨f1, d1, D1⟩ := T.d_are_members
  refine F.ok sc_need_members (fun vs H Q E h => ?_) (fun cdv A outer s H vs Q E hr h => ?_)
  · obtain ⟨a, ns, rfl, _⟩ := h
    rfl
  · obtain ⟨a, ns, rfl, ha, G, q⟩ := h
    refine ⟨_, pss_one (ps_if (pt_not (pt_val (cl D1 (ok_are_members T D1.fn) hr (pa_cons (pv 0) pa_nil)))) (pss_one ps_never) pss_nil), ?_⟩
    exact ⟨_, rfl, a, ns, rfl, ha, G, fun H' s => ⟨true, rfl, iteF (q H' s)⟩⟩
end
end K7
namespace K7
open PySem PySem.Spec PyProof.Rows L2
section
variable {P : Program} {w : World} {K : PySem.W.Frag} {mg : Str → Option Value} {base : Heap} {f : Addr} {fd : FuncData}
/-! ### folds -/
def sp_is_told : Sp := fun vs H Q _ => ∃ b : Bool, vs = [.str (tS b)] ∧ Q (.bl true) H
theorem ok_is_told (T : Txt K mg) (F : Fun K "is_told" "is_told" s_is_told f fd) : FnOk P w K mg base CX0 1 f fd ["thing"] sp_is_told := by
  refine F.ok sc_is_told (fun vs H Q E h => ?_) (fun cdv A outer s H vs Q E hr h => ?_)
  · obtain ⟨i, rfl, _⟩ := h
    rfl
  · obtain ⟨b, rfl, q⟩ := h
    refine ⟨_, pss_one (ps_ret (pe_and
      (pe_callB call_isi (by rfl) T.n_isinstance (by decide +kernel) (pa_cons (pv 0) (pa_cons (pe_bltn (v := .ty "str") (by rfl) T.n_str (by decide +kernel) rfl) pa_nil)))
      (pe_one (pe_cmpR op_notin_str pe_str (pv 0) (by rfl))))), ?_⟩
    refine ⟨_, rfl, _, _, _, _, true, rfl, ClsV.ty "str", .base (.str _), kit_ty (by decide +kernel), true, rfl, iteT ?_⟩
    refine ⟨_, rfl, _, _, rfl, rfl, q_eq (congrArg V.bl ?_) q⟩
    cases b <;> decide +kernel
/-- what is asked of a fold -/
structure GoodF (L : Lo) : Prop where
  p : L.P ≤ 1000000
  r : L.R ≤ 1000000
  m : GoodM L.M
def sp_is_fold : Sp := fun vs H Q _ => ∃ (a : Addr) (L : Lo), vs = [.ref a] ∧ FoldAt H a L ∧ GoodF L ∧ ∀ H', Same H H' → Q (.bl true) H'
theorem ok_is_fold (T : Txt K mg) (F : Fun K "is_fold" "is_fold" s_is_fold f fd) : FnOk P w K mg base CX0 4 f fd ["thing"] sp_is_fold := by
  obtain ⟨f1, d1, D1⟩ := T.d_is_among
  obtain ⟨f2, d2, D2⟩ := T.d_are_members
  obtain ⟨f3, d3, D3⟩ := T.d_is_told
  obtain ⟨tm, cM⟩ := T.c_MOST
  refine F.ok sc_is_fold (fun vs H Q E h => ?_) (fun cdv A outer s H vs Q E hr h => ?_)
  · obtain ⟨a, ns, rfl, _⟩ := h
    rfl
  · obtain ⟨a, L, rfl, ⟨m, h1, h2⟩, G, q⟩ := h
    refine ⟨_, pss_cons (ps_if (PW.pt (pw_or (pt_not (pt_val (pe_callB call_isi (by rfl) T.n_isinstance (by decide +kernel) (pa_cons (pv 0) (pa_cons (pe_bltn (v := .ty "tuple") (by rfl) T.n_tuple (by decide +kernel) rfl) pa_nil)))))
        (pw_or1 (pt_cmpR op_ne (pe_callB call_len_seq (by rfl) T.n_len PySem.boot_len (pa_cons (pv 0) pa_nil)) pe_int (nomark _))))) (pss_one (ps_ret pe_bl)) pss_nil)
      (pss_cons (ps_if (PW.pt (pw_or (pt_not (pt_val (cl D1 (ok_is_among T D1.fn) (hr.mono (by decide)) (pa_cons (pe_ixn 0 (pv 0)) (pa_cons pe_int (pa_cons (pe_glob (v := .int 1000000) rfl cM ⟨_, rfl⟩) pa_nil))))))
        (pw_or1 (pt_not (pt_val (cl D1 (ok_is_among T D1.fn) (hr.mono (by decide)) (pa_cons (pe_ixn 1 (pv 0)) (pa_cons pe_int (pa_cons (pe_glob (v := .int 1000000) rfl cM ⟨_, rfl⟩) pa_nil))))))))) (pss_one (ps_ret pe_bl)) pss_nil)
      (pss_one (ps_ret (pe_and (cl D2 (ok_are_members T D2.fn) hr (pa_cons (pe_ixn 2 (pv 0)) pa_nil)) (pe_one (cl D3 (ok_is_told T D3.fn) (hr.mono (by decide)) (pa_cons (pe_ixn 3 (pv 0)) pa_nil))))))), ?_⟩
    have g1 := G.p
    have g2 := G.r
    refine ⟨_, rfl, _, _, _, _, true, rfl, ClsV.ty "tuple", .base (.tup h1), kit_ty (by decide +kernel), true, rfl, iteF ?_⟩
    refine ⟨_, rfl, a, _, rfl, .inr (SqT.of h1), rfl, false, rfl, iteF ?_⟩
    refine ⟨_, rfl, a, _, _, rfl, h1, rfl, _, _, _, true, rfl, decide_eq_true (by omega), true, rfl, iteF ?_⟩
    refine ⟨_, rfl, a, _, _, rfl, h1, rfl, _, _, _, true, rfl, decide_eq_true (by omega), true, rfl, iteF ?_⟩
    refine ⟨_, rfl, a, _, _, rfl, h1, rfl, m, _, rfl, h2, G.m, fun H' s => ⟨true, rfl, iteT ?_⟩⟩
    exact ⟨_, rfl, a, _, _, rfl, s _ _ h1, rfl, L.T, rfl, q H' s⟩
def sp_need_fold : Sp := fun vs H Q _ => ∃ (a : Addr) (L : Lo), vs = [.ref a] ∧ FoldAt H a L ∧ GoodF L ∧ ∀ H', Same H H' → Q .non H'
theorem ok_need_fold (T : Txt K mg) (F : Fun K "need_fold" "need_fold" s_need_fold f fd) : FnOk P w K mg base CX0 5 f fd ["thing"] sp_need_fold := by
  obtain ⟨f1, d1, D1⟩ := T.d_is_fold
  refine F.ok sc_need_fold (fun vs H Q E h => ?_) (fun cdv A outer s H vs Q E hr h => ?_)
  · obtain ⟨a, ns, rfl, _⟩ := h
    rfl
  · obtain ⟨a, L, rfl, ha, G, q⟩ := h
    refine ⟨_, pss_one (ps_if (pt_not (pt_val (cl D1 (ok_is_fold T D1.fn) hr (pa_cons (pv 0) pa_nil)))) (pss_one ps_never) pss_nil), ?_⟩
    exact ⟨_, rfl, a, L, rfl, ha, G, fun H' s => ⟨true, rfl, iteF (q H' s)⟩⟩
def sp_first_fold : Sp := fun vs H Q _ => ∃ (a : Addr) (ns : List Int) (b : Bool), vs = [.ref a, .str (tS b)] ∧ H a = some (.tup (ns.map V.int)) ∧ GoodM ns ∧ ∀ H' p, Same H H' → FoldAt H' p ⟨0, 0, ns, b, []⟩ → Q (.ref p) H'
theorem ok_first_fold (T : Txt K mg) (F : Fun K "first_fold" "first_fold" s_first_fold f fd) : FnOk P w K mg base CX0 5 f fd ["members", "told"] sp_first_fold := by
  obtain ⟨f1, d1, D1⟩ := T.d_need_members
  obtain ⟨f2, d2, D2⟩ := T.d_is_told
  refine F.ok sc_first_fold (fun vs H Q E h => ?_) (fun cdv A outer s H vs Q E hr h => ?_)
  · obtain ⟨a, ns, b, rfl, _⟩ := h
    rfl
  · obtain ⟨a, ns, b, rfl, ha, G, q⟩ := h
    refine ⟨_, pss_cons (ps_expr (cl D1 (ok_need_members T D1.fn) hr (pa_cons (pv 0) pa_nil)))
      (pss_cons (ps_if (pt_not (pt_val (cl D2 (ok_is_told T D2.fn) (hr.mono (by decide)) (pa_cons (pv 1) pa_nil)))) (pss_one ps_never) pss_nil)
      (pss_one (ps_ret (pe_tup (pa_cons pe_int (pa_cons pe_int (pa_cons (pv 0) (pa_cons (pv 1) pa_nil)))))))), ?_⟩
    refine ⟨_, rfl, a, ns, rfl, ha, G, fun H' s => ?_⟩
    refine ⟨_, rfl, b, rfl, true, rfl, iteF ?_⟩
    exact ⟨_, rfl, _, rfl, by show 4 ≤ sizeLine; decide, fun p np => q _ p (s.trans (new_ np)) ⟨a, upd_same, (new_ np) _ _ (s _ _ ha)⟩⟩
/-! ### logs that are read -/
def sp_last : Sp := fun vs H Q _ => ∃ (x : V) (L : Lo), vs = [x] ∧ LogAt H x L ∧ Q (.int (L.last : Nat)) H
theorem ok_last (T : Txt K mg) (F : Fun K "last" "last" s_last f fd) : FnOk P w K mg base CX0 1 f fd ["log"] sp_last := by
  refine F.ok sc_last (fun vs H Q E h => ?_) (fun cdv A outer s H vs Q E hr h => ?_)
  · obtain ⟨x, L, rfl, _⟩ := h
    rfl
  · obtain ⟨x, L, rfl, hL, q⟩ := h
    refine ⟨_, pss_one (ps_ret (pe_op op_add (pe_P (pv 0)) (pe_callB call_len_seq (by rfl) T.n_len PySem.boot_len (pa_cons (pe_rows (pv 0)) pa_nil)))), ?_⟩
    refine ⟨_, rfl, L, hL, _, rfl, L, hL, fun r vs hr hv => ⟨r, vs, rfl, .inr (SqT.of hr), _, _, rfl, rfl, q_eq (congrArg V.int ?_) q⟩⟩
    have := Paired.length hv
    unfold Lg.last
    omega
def sp_has_row : Sp := fun vs H Q _ => ∃ (x : V) (L : Lo) (p : Nat), vs = [x, .int (p : Nat)] ∧ LogAt H x L ∧ Q (.bl (L.hasRow p)) H
theorem ok_has_row (T : Txt K mg) (F : Fun K "has_row" "has_row" s_has_row f fd) : FnOk P w K mg base CX0 3 f fd ["log", "place"] sp_has_row := by
  obtain ⟨f1, d1, D1⟩ := T.d_is_among
  obtain ⟨f2, d2, D2⟩ := T.d_last
  refine F.ok sc_has_row (fun vs H Q E h => ?_) (fun cdv A outer s H vs Q E hr h => ?_)
  · obtain ⟨x, L, p, rfl, _⟩ := h
    rfl
  · obtain ⟨x, L, p, rfl, hL, q⟩ := h
    refine ⟨_, pss_one (ps_ret (cl D1 (ok_is_among T D1.fn) hr (pa_cons (pv 1) (pa_cons (pe_op op_add (pe_P (pv 0)) pe_int) (pa_cons (cl D2 (ok_last T D2.fn) (hr.mono (by decide)) (pa_cons (pv 0) pa_nil)) pa_nil))))), ?_⟩
    refine ⟨_, rfl, _, rfl, L, hL, _, _, rfl, rfl, _, rfl, x, L, rfl, hL, _, _, _, _, rfl, ?_, q⟩
    unfold Lg.hasRow
    rw [decide_eq_decide]
    omega
/-- a reign or nothing -/
def oV : Option Nat → V
  | none => .non
  | some r => .int (r : Nat)
theorem reign_row {L : Lo} {p : Nat} (h : L.hasRow p = true) : L.P < p ∧ p ≤ L.last ∧ ∃ r, L.rows[p - L.P - 1]? = some r ∧ L.reignAt p = some r.1 ∧ L.rowAt p = some r := by
  have h1 := of_decide_eq_true h
  have h2 : p - L.P - 1 < L.rows.length := by
    unfold Lg.last at h1
    omega
  refine ⟨by omega, h1.2, L.rows[p - L.P - 1], List.getElem?_eq_getElem h2, ?_, ?_⟩
  · unfold Lg.reignAt
    rw [if_pos (by omega), List.getElem?_eq_getElem h2]
    rfl
  · unfold Lg.rowAt
    rw [if_pos (by omega), List.getElem?_eq_getElem h2]
theorem reign_no {L : Lo} {p : Nat} (h : L.hasRow p = false) : L.reignAt p = if p = L.P then some L.R else none := by
  have h1 := of_decide_eq_false h
  unfold Lg.reignAt
  by_cases e : L.P < p
  · rw [if_pos e, if_neg (by omega), List.getElem?_eq_none]
    · rfl
    · unfold Lg.last at h1
      omega
  · rw [if_neg e]
def sp_reign_at : Sp := fun vs H Q _ => ∃ (x : V) (L : Lo) (p : Nat), vs = [x, .int (p : Nat)] ∧ LogAt H x L ∧ Q (oV (L.reignAt p)) H
theorem ok_reign_at (T : Txt K mg) (F : Fun K "reign_at" "reign_at" s_reign_at f fd) : FnOk P w K mg base CX0 4 f fd ["log", "place"] sp_reign_at := by
  obtain ⟨f1, d1, D1⟩ := T.d_has_row
  obtain ⟨f2, d2, D2⟩ := T.d_is_whole
  refine F.ok sc_reign_at (fun vs H Q E h => ?_) (fun cdv A outer s H vs Q E hr h => ?_)
  · obtain ⟨x, L, p, rfl, _⟩ := h
    rfl
  · obtain ⟨x, L, p, rfl, hL, q⟩ := h
    refine ⟨_, pss_cons (ps_if (pt_val (cl D1 (ok_has_row T D1.fn) hr (pa_cons (pv 0) (pa_cons (pv 1) pa_nil))))
        (pss_one (ps_ret (pe_rg (pe_ix ix_tup (pe_rows (pv 0)) (pe_op op_sub (pe_op op_sub (pv 1) (pe_P (pv 0))) pe_int) (fun _ _ => rfl))))) pss_nil)
      (pss_one (ps_ret (pe_ifExp (PW.pt (pw_and (pt_val (cl D2 (ok_is_whole T D2.fn) (hr.mono (by decide)) (pa_cons (pv 1) pa_nil))) (pw_and1 (pt_cmpR op_eq (pv 1) (pe_P (pv 0)) (nomark _))))) (pe_R (pv 0)) pe_non))), ?_⟩
    refine ⟨_, rfl, _, rfl, x, L, p, rfl, hL, _, rfl, ?_⟩
    cases e : L.hasRow p with
    | true =>
      obtain ⟨h1, h2, r, e1, e2, _⟩ := reign_row e
      refine iteT ?_
      refine ⟨_, rfl, L, hL, fun a vs ha hv => ?_⟩
      obtain ⟨v, hv1, hv2⟩ := pd_right hv e1
      refine ⟨_, rfl, _, rfl, L, hL, _, _, rfl, rfl, _, _, rfl, rfl, a, vs, _, v, rfl, rfl, SqT.of ha, at_of (j := p - L.P - 1) (by omega) hv1, r, hv2, ?_⟩
      rw [e2] at q
      exact q
    | false =>
      have e2 := reign_no e
      refine iteF ?_
      refine ⟨_, rfl, _, rfl, true, rfl, iteT ?_⟩
      refine ⟨_, rfl, _, rfl, L, hL, rfl, _, rfl, ite2 (fun c => ?_) (fun c => ?_)⟩
      · have e3 : p = L.P := by
          have := V.int.inj (of_decide_eq_true c)
          omega
        rw [e2, if_pos e3] at q
        exact ⟨_, rfl, L, hL, q⟩
      · have e3 : ¬ p = L.P := fun z => c (by rw [z]; exact decide_eq_true rfl)
        rw [e2, if_neg e3] at q
        exact q
def sp_row_at : Sp := fun vs H Q _ => ∃ (x : V) (L : Lo) (p : Nat), vs = [x, .int (p : Nat)] ∧ LogAt H x L ∧ L.hasRow p = true ∧ ∀ v r, L.rowAt p = some r → RowAt H v r → Q v H
theorem ok_row_at (T : Txt K mg) (F : Fun K "row_at" "row_at" s_row_at f fd) : FnOk P w K mg base CX0 4 f fd ["log", "place"] sp_row_at := by
  obtain ⟨f1, d1, D1⟩ := T.d_has_row
  refine F.ok sc_row_at (fun vs H Q E h => ?_) (fun cdv A outer s H vs Q E hr h => ?_)
  · obtain ⟨x, L, p, rfl, _⟩ := h
    rfl
  · obtain ⟨x, L, p, rfl, hL, e, q⟩ := h
    refine ⟨_, pss_cons (ps_if (pt_not (pt_val (cl D1 (ok_has_row T D1.fn) hr (pa_cons (pv 0) (pa_cons (pv 1) pa_nil))))) (pss_one ps_never) pss_nil)
      (pss_one (ps_ret (pe_ix ix_tup (pe_rows (pv 0)) (pe_op op_sub (pe_op op_sub (pv 1) (pe_P (pv 0))) pe_int) (fun _ _ => rfl)))), ?_⟩
    obtain ⟨h1, h2, r, e1, e2, e3⟩ := reign_row e
    refine ⟨_, rfl, _, rfl, x, L, p, rfl, hL, true, by rw [e], iteF ?_⟩
    refine ⟨_, rfl, L, hL, fun a vs ha hv => ?_⟩
    obtain ⟨v, hv1, hv2⟩ := pd_right hv e1
    exact ⟨_, rfl, _, rfl, L, hL, _, _, rfl, rfl, _, _, rfl, rfl, a, vs, _, v, rfl, rfl, SqT.of ha, at_of (j := p - L.P - 1) (by omega) hv1, q v r e3 hv2⟩
def sp_with_row : Sp := fun vs H Q _ => ∃ (x y : V) (L : Lo) (r : Rw), vs = [x, y] ∧ LogAt H x L ∧ RowAt H y r ∧ L.rows.length ≤ 500 ∧ ∀ H' z, Same H H' → LogAt H' z (L.withRow r) → Q z H'
theorem ok_with_row (T : Txt K mg) (F : Fun K "with_row" "with_row" s_with_row f fd) : FnOk P w K mg base CX0 1 f fd ["log", "row"] sp_with_row := by
  refine F.ok sc_with_row (fun vs H Q E h => ?_) (fun cdv A outer s H vs Q E hr h => ?_)
  · obtain ⟨x, y, L, r, rfl, _⟩ := h
    rfl
  · obtain ⟨x, y, L, r, rfl, hL, hr', hz, q⟩ := h
    refine ⟨_, pss_one (ps_ret (pe_tup (pa_cons (pe_fold (pv 0)) (pa_cons (pe_op op_catG (pe_rows (pv 0)) (pe_tup (pa_cons (pv 1) pa_nil))) pa_nil)))), ?_⟩
    refine ⟨_, rfl, L, hL, fun fo hf => ⟨_, rfl, L, hL, fun a vs ha hv => ⟨_, rfl, by show 1 ≤ sizeLine; decide, fun b nb => ?_⟩⟩⟩
    refine ⟨a, b, vs, [y], rfl, rfl, new_ nb _ _ ha, upd_same, size_small (by have := Paired.length hv; simp; omega), fun c H1 s1 hc => ⟨by show 2 ≤ sizeLine; decide, fun p np => ?_⟩⟩
    have s2 : Same H (upd H1 p (.tup [.ref fo, .ref c])) := ((new_ nb).trans s1).trans (new_ np)
    exact q _ _ s2 ⟨p, fo, c, vs ++ [y], rfl, upd_same, hf.kp (l := []) (.of s2), new_ np _ _ hc, pd_append (rows_kp (l := []) (.of s2) hv) (pd_one (hr'.kp (l := []) (.of s2)))⟩
end
end K7
namespace K7
open PySem PySem.Spec PyProof.Rows L2
section
variable {P : Program} {w : World} {K : PySem.W.Frag} {mg : Str → Option Value} {base : Heap} {f : Addr} {fd : FuncData}
theorem LogAt.same {H H' : Hp} {v : V} {L : Lo} (s : Same H H') (h : LogAt H v L) : LogAt H' v L := h.kp (l := []) (.of s)
theorem FoldAt.same {H H' : Hp} {v : Addr} {L : Lo} (s : Same H H') (h : FoldAt H v L) : FoldAt H' v L := h.kp (l := []) (.of s)
theorem rows_same {H H' : Hp} {vs : List V} {L : List Rw} (s : Same H H') (h : RowsAt H vs L) : RowsAt H' vs L := rows_kp (l := []) (.of s) h
theorem reign_le {L : Lo} {p r : Nat} (h : L.reignAt p = some r) : p ≤ L.last := by
  unfold Lg.reignAt at h
  unfold Lg.last
  by_cases e : L.P < p
  · rw [if_pos e] at h
    have : p - L.P - 1 < L.rows.length := by
      apply Classical.byContradiction
      intro hn
      rw [List.getElem?_eq_none (by omega)] at h
      cases h
    omega
  · omega
theorem reign_some {L : Lo} {p : Nat} (h1 : L.P ≤ p) (h2 : p ≤ L.last) : L.reignAt p = some ((L.reignAt p).getD 0) := by
  have e : ∃ r, L.reignAt p = some r := by
    unfold Lg.last at h2
    unfold Lg.reignAt
    by_cases e : L.P < p
    · rw [if_pos e, List.getElem?_eq_getElem (by omega)]
      exact ⟨_, rfl⟩
    · rw [if_neg e, if_pos (by omega)]
      exact ⟨_, rfl⟩
  obtain ⟨r, e⟩ := e
  rw [e]
  rfl
theorem putAt_cons (L : Lo) (b i : Nat) (r : Rw) (rs : List Rw) : L.putAt b i (r :: rs) = if L.P < b + 1 + i ∧ L.reignAt (b + 1 + i) ≠ some r.1 then some (i, r :: rs) else L.putAt b (i + 1) rs := rfl
/-! ### rows that are put -/
def sp_put_rows : Sp := fun vs H Q _ => ∃ (x : V) (L : Lo) (b : Nat) (a : Addr) (ws : List V) (rs : List Rw), vs = [x, .int (b : Nat), .ref a] ∧ LogAt H x L ∧ b ≤ L.last ∧ H a = some (.tup ws) ∧ RowsAt H ws rs ∧ L.rows.length ≤ 500 ∧ rs.length ≤ 400 ∧
  ∀ H' z, Same H H' → LogAt H' z (L.put b rs) → Q z H'
theorem ok_put_rows (T : Txt K mg) (F : Fun K "put_rows" "put_rows" s_put_rows f fd) : FnOk P w K mg base CX0 5 f fd ["log", "before", "rows"] sp_put_rows := by
  obtain ⟨f1, d1, D1⟩ := T.d_last
  obtain ⟨f2, d2, D2⟩ := T.d_reign_at
  refine F.ok sc_put_rows (fun vs H Q E h => ?_) (fun cdv A outer s H vs Q E hr h => ?_)
  · obtain ⟨x, L, b, a, ws, rs, rfl, _⟩ := h
    rfl
  · obtain ⟨x, L, b, a, ws, rs, rfl, hL, hb, ha, hw, z1, z2, q⟩ := h
    refine ⟨_, pss_cons (ps_if (pt_cmpR op_gt (pv 1) (cl D1 (ok_last T D1.fn) (hr.mono (by decide)) (pa_cons (pv 0) pa_nil)) (nomark _)) (pss_one (ps_ret pe_non)) pss_nil)
      (pss_cons (ps_for PassesOwn.never rfl (pi_enumT (by rfl) T.n_enumerate (pa_cons (pv 2) pa_nil)) (pg_tup rfl (pgs_cons (pg_name (i := 3) sc_put_rows.nd rfl (.inl rfl)) (pgs_cons (pg_name (i := 4) sc_put_rows.nd rfl (.inl rfl)) pgs_nil)))
        (pss_cons (ps_set (i := 5) sc_put_rows.nd rfl (.inl rfl) (pe_op op_add (pe_op op_add (pv 1) pe_int) (pv 3)))
        (pss_one (ps_if (PW.pt (pw_and (pt_cmpR op_gt (pv 5) (pe_P (pv 0)) (nomark _)) (pw_and1 (pt_cmpR op_ne (cl D2 (ok_reign_at T D2.fn) hr (pa_cons (pv 0) (pa_cons (pv 5) pa_nil))) (pe_rg (pv 4)) (nomark _)))))
          (pss_one (ps_ret (pe_tup (pa_cons (pe_fold (pv 0)) (pa_cons (pe_op op_catG (pe_slice sl_to (pe_rows (pv 0)) po_none (po_some (pe_op op_sub (pe_op op_sub (pv 5) (pe_P (pv 0))) pe_int))) (pe_slice sl_from (pv 2) (po_some (pv 3)) po_none)) pa_nil))))) pss_nil))))
      (pss_one (ps_ret (pv 0)))), ?_⟩
    have hl := Paired.length hw
    refine ⟨_, rfl, _, rfl, x, L, rfl, hL, _, _, rfl, rfl, false, congrArg V.bl (decide_eq_false (by omega)), iteF ?_⟩
    refine ⟨_, rfl, a, ws, rfl, SqT.of ha, for_it (walk_enumT (xs := ws)) (fun i σ H1 => ∃ y3 y4 y5, σ = [some x, some (.int (b : Nat)), some (.ref a), y3, y4, y5] ∧ Same H H1 ∧ b + i ≤ L.last ∧ L.putAt b i (rs.drop i) = L.putAt b 0 rs)
      ⟨none, none, none, rfl, Same.refl H, hb, rfl⟩ (fun i σ H1 _ p => ?_) (fun i v σ H1 H2 hi p y => ?_) (fun σ H1 p => ?_)⟩
    · obtain ⟨_, _, _, _, s1, _⟩ := p
      exact SqT.of (s1 _ _ ha)
    · obtain ⟨y3, y4, y5, rfl, s1, eb, ep⟩ := p
      obtain ⟨t, u, v2, rfl, nt, rfl, hu, hv⟩ := y
      cases Option.some.inj hu
      have s2 : Same H (upd H1 t (.tup [.int (i : Nat), v2])) := s1.trans (new_ nt)
      have hi' : i < rs.length := by omega
      have hv' : ws[i]? = some v2 := hv
      obtain ⟨r, er, hr2⟩ := pd_left hw hv'
      have ed : rs.drop i = r :: rs.drop (i + 1) := by
        rw [List.drop_eq_getElem_cons hi']
        rw [List.getElem?_eq_getElem hi'] at er
        rw [Option.some.inj er]
      have hL2 := hL.same s2
      have hr3 : RowAt (upd H1 t (.tup [.int (i : Nat), v2])) v2 r := hr2.kp (l := []) (.of s2)
      rw [ed, putAt_cons] at ep
      refine ⟨t, _, rfl, SqT.of upd_same, rfl, _, _, rfl, _, _, rfl, rfl, ?_⟩
      refine ⟨_, rfl, _, _, rfl, rfl, _, rfl, _, _, rfl, rfl, ?_⟩
      refine ⟨_, rfl, _, rfl, L, hL2, _, _, rfl, rfl, _, rfl, ite2 (fun c1 => ?_) (fun c1 => ?_)⟩
      · have c1' : L.P < b + 1 + i := by
          have := of_decide_eq_true c1
          omega
        refine ⟨_, rfl, _, rfl, x, L, b + 1 + i, rfl, hL2, _, rfl, r, hr3, by cases L.reignAt (b + 1 + i) <;> rfl, _, rfl, ite2 (fun c2 => ?_) (fun c2 => ?_)⟩
        · have c2' : L.reignAt (b + 1 + i) ≠ some r.1 := fun z => by
            rw [z] at c2
            simp [oV] at c2
          rw [if_pos ⟨c1', c2'⟩] at ep
          have eput := put_some ep.symm
          refine ⟨_, rfl, L, hL2, fun fo hf => ⟨_, rfl, L, hL2, fun ra vs hra hvs => ?_⟩⟩
          have hlr := Paired.length hvs
          have ec : b + 1 + i - L.P - 1 ≤ vs.length := by
            have : L.last = L.P + L.rows.length := rfl
            omega
          refine ⟨_, rfl, _, rfl, L, hL2, _, _, rfl, rfl, _, _, rfl, rfl, _, rfl, ra, vs, b + 1 + i - L.P - 1, rfl, hra, rfl, congrArg some (by omega), ec, fun c H3 s3 hc => ?_⟩
          refine ⟨_, rfl, _, rfl, _, rfl, a, ws, i, rfl, s3 _ _ (s2 _ _ ha), rfl, rfl, fun d H4 s4 hd => ?_⟩
          refine ⟨c, d, _, _, rfl, rfl, s4 _ _ hc, hd, size_small (by rw [List.length_take, List.length_drop]; omega), fun e H5 s5 he => ⟨by show 2 ≤ sizeLine; decide, fun p np => ?_⟩⟩
          have s6 : Same (upd H1 t (.tup [.int (i : Nat), v2])) (upd H5 p (.tup [.ref fo, .ref e])) := ((s3.trans s4).trans s5).trans (new_ np)
          refine q _ _ (s2.trans s6) ⟨p, fo, e, _, rfl, upd_same, ?_, new_ np _ _ he, ?_⟩
          · rw [eput]
            exact hf.same s6
          · rw [eput]
            refine rows_same s6 (pd_append (pd_take _ hvs) ?_)
            rw [← ed]
            exact rows_same s2 (pd_drop i hw)
        · have c2' : L.reignAt (b + 1 + i) = some r.1 := by
            cases e : L.reignAt (b + 1 + i) with
            | none =>
              rw [e] at c2
              simp [oV] at c2
            | some z =>
              rw [e] at c2
              simp [oV] at c2
              rw [show z = r.1 by omega]
          rw [if_neg (fun z => z.2 c2')] at ep
          exact ⟨_, _, _, rfl, s2, by have := reign_le c2'; omega, ep⟩
      · have c1' : ¬ L.P < b + 1 + i := fun z => c1 (decide_eq_true (by omega))
        rw [if_neg (fun z => c1' z.1)] at ep
        exact ⟨_, _, _, rfl, s2, by have : L.last = L.P + L.rows.length := rfl; omega, ep⟩
    · obtain ⟨y3, y4, y5, rfl, s1, _, ep⟩ := p
      rw [hl, List.drop_length] at ep
      refine ⟨_, rfl, q H1 x s1 ?_⟩
      rw [put_none ep.symm]
      exact hL.same s1
/-! ### members, folds -/
theorem memb_one (M : List Int) (l : List Rw) (i : Nat) (r : Rw) (h : l[i]? = some r) : memb M (l.take (i + 1)) = memb (memb M (l.take i)) [r] := by
  rw [List.take_add_one, h, memb_append]
  rfl
def sp_members_at : Sp := fun vs H Q _ => ∃ (x : V) (L : Lo) (p : Nat), vs = [x, .int (p : Nat)] ∧ LogAt H x L ∧ L.P ≤ p ∧ p ≤ L.last ∧ ∀ H' m, Same H H' → H' m = some (.tup ((L.memAt p).map V.int)) → Q (.ref m) H'
theorem ok_members_at (T : Txt K mg) (F : Fun K "members_at" "members_at" s_members_at f fd) : FnOk P w K mg base CX0 3 f fd ["log", "place"] sp_members_at := by
  obtain ⟨f1, d1, D1⟩ := T.d_is_among
  obtain ⟨f2, d2, D2⟩ := T.d_last
  refine F.ok sc_members_at (fun vs H Q E h => ?_) (fun cdv A outer s H vs Q E hr h => ?_)
  · obtain ⟨x, L, p, rfl, _⟩ := h
    rfl
  · obtain ⟨x, L, p, rfl, hL, h1, h2, q⟩ := h
    refine ⟨_, pss_cons (ps_if (pt_not (pt_val (cl D1 (ok_is_among T D1.fn) hr (pa_cons (pv 1) (pa_cons (pe_P (pv 0)) (pa_cons (cl D2 (ok_last T D2.fn) (hr.mono (by decide)) (pa_cons (pv 0) pa_nil)) pa_nil)))))) (pss_one ps_never) pss_nil)
      (pss_cons (ps_set (i := 2) sc_members_at.nd rfl (.inl rfl) (pe_M (pv 0)))
      (pss_cons (ps_for PassesOwn.never rfl (pi_tup (pe_slice sl_to (pe_rows (pv 0)) po_none (po_some (pe_op op_sub (pv 1) (pe_P (pv 0)))))) (pg_name (i := 3) sc_members_at.nd rfl (.inl rfl))
        (pss_one (ps_if (pt_cmpR op_eq (pe_ixn 0 (pe_ixn 1 (pv 3))) pe_str (nomark _)) (pss_one (ps_set (i := 2) sc_members_at.nd rfl (.inl rfl) (pe_ixn 1 (pe_ixn 1 (pv 3))))) pss_nil)))
      (pss_one (ps_ret (pv 2))))), ?_⟩
    refine ⟨_, rfl, _, rfl, L, hL, _, rfl, x, L, rfl, hL, _, _, _, true, rfl, decide_eq_true (by omega), true, rfl, iteF ?_⟩
    refine ⟨_, rfl, L, hL, fun m hm => ?_⟩
    refine ⟨_, rfl, L, hL, fun ra vs hra hvs => ?_⟩
    have hlr := Paired.length hvs
    have hz : L.last = L.P + L.rows.length := rfl
    refine ⟨_, rfl, _, rfl, L, hL, _, _, rfl, rfl, _, rfl, ra, vs, p - L.P, rfl, hra, rfl, congrArg some (by omega), by omega, fun c H1 s1 hc => ?_⟩
    have hts : RowsAt H1 (vs.take (p - L.P)) (L.rows.take (p - L.P)) := rows_same s1 (pd_take _ hvs)
    refine ⟨c, rfl, ⟨_, SqT.of hc⟩, for_it (walk_tup (xs := vs.take (p - L.P))) (fun i σ H2 => ∃ y m', σ = [some x, some (.int (p : Nat)), some (.ref m'), y] ∧ Same H1 H2 ∧ H2 m' = some (.tup ((memb L.M ((L.rows.take (p - L.P)).take i)).map V.int)))
      ⟨none, m, rfl, Same.refl _, s1 _ _ hm⟩ (fun i σ H2 _ p => ?_) (fun i v σ H2 H3 hi p y => ?_) (fun σ H2 p => ?_)⟩
    · obtain ⟨_, _, _, s2, _⟩ := p
      exact SqT.of (s2 _ _ hc)
    · obtain ⟨y3, m', rfl, s2, hm'⟩ := p
      obtain ⟨rfl, hv⟩ := y
      obtain ⟨r, er, ⟨a, b, rfl, ha, hb⟩⟩ := pd_left hts hv
      have ha := s2 _ _ ha
      have hb := hb.kp (l := []) (.of s2)
      have em := memb_one L.M _ _ _ er
      obtain ⟨rr, dd⟩ := r
      cases dd with
      | blank =>
        have hb : H3 b = some (.tup [.str "blank"]) := hb
        refine ⟨_, rfl, a, _, _, rfl, ha, rfl, b, _, _, rfl, hb, rfl, rfl, false, congrArg V.bl (by decide +kernel), iteF ⟨_, _, rfl, s2, ?_⟩⟩
        rw [em]
        exact hm'
      | mem ns =>
        obtain ⟨m2, hb, hm2⟩ := hb
        refine ⟨_, rfl, a, _, _, rfl, ha, rfl, b, _, _, rfl, hb, rfl, rfl, true, congrArg V.bl (by decide +kernel), iteT ?_⟩
        refine ⟨_, rfl, a, _, _, rfl, ha, rfl, b, _, _, rfl, hb, rfl, _, _, rfl, s2, ?_⟩
        rw [em]
        exact hm2
      | call ds =>
        obtain ⟨ws, hb, _⟩ := hb
        refine ⟨_, rfl, a, _, _, rfl, ha, rfl, b, _, _, rfl, hb, rfl, rfl, false, congrArg V.bl (by decide +kernel), iteF ⟨_, _, rfl, s2, ?_⟩⟩
        rw [em]
        exact hm'
    · obtain ⟨y3, m', rfl, s2, hm'⟩ := p
      rw [List.take_of_length_le (by rw [List.length_take, List.length_take]; omega)] at hm'
      exact ⟨_, rfl, q H2 m' (s1.trans s2) hm'⟩
def sp_folded : Sp := fun vs H Q _ => ∃ (x : V) (L : Lo) (p : Nat), vs = [x, .int (p : Nat), .str (tS true)] ∧ LogAt H x L ∧ L.P ≤ p ∧ p ≤ L.last ∧ GoodF (L.folded p) ∧ ∀ H' z, Same H H' → LogAt H' z (L.folded p) → Q z H'
theorem ok_folded (T : Txt K mg) (F : Fun K "folded" "folded" s_folded f fd) : FnOk P w K mg base CX0 6 f fd ["log", "place", "told"] sp_folded := by
  obtain ⟨f1, d1, D1⟩ := T.d_members_at
  obtain ⟨f2, d2, D2⟩ := T.d_reign_at
  obtain ⟨f3, d3, D3⟩ := T.d_need_fold
  refine F.ok sc_folded (fun vs H Q E h => ?_) (fun cdv A outer s H vs Q E hr h => ?_)
  · obtain ⟨x, L, p, rfl, _⟩ := h
    rfl
  · obtain ⟨x, L, p, rfl, hL, h1, h2, G, q⟩ := h
    refine ⟨_, pss_cons (ps_set (i := 3) sc_folded.nd rfl (.inl rfl) (cl D1 (ok_members_at T D1.fn) (hr.mono (by decide)) (pa_cons (pv 0) (pa_cons (pv 1) pa_nil))))
      (pss_cons (ps_set (i := 4) sc_folded.nd rfl (.inl rfl) (pe_tup (pa_cons (pv 1) (pa_cons (cl D2 (ok_reign_at T D2.fn) (hr.mono (by decide)) (pa_cons (pv 0) (pa_cons (pv 1) pa_nil))) (pa_cons (pv 3) (pa_cons (pv 2) pa_nil))))))
      (pss_cons (ps_expr (cl D3 (ok_need_fold T D3.fn) hr (pa_cons (pv 4) pa_nil)))
      (pss_one (ps_ret (pe_tup (pa_cons (pv 4) (pa_cons (pe_slice sl_from (pe_rows (pv 0)) (po_some (pe_op op_sub (pv 1) (pe_P (pv 0)))) po_none) pa_nil))))))), ?_⟩
    refine ⟨_, rfl, _, rfl, x, L, p, rfl, hL, h1, h2, fun H1 m s1 hm => ?_⟩
    have hL1 := hL.same s1
    refine ⟨_, rfl, _, rfl, _, rfl, x, L, p, rfl, hL1, _, rfl, _, rfl, by show 4 ≤ sizeLine; decide, fun fo nf => ?_⟩
    rw [reign_some h1 h2]
    have s2 := new_ (o := .tup [.int (p : Nat), oV (some ((L.reignAt p).getD 0)), .ref m, .str (tS true)]) nf
    have hF : FoldAt (upd H1 fo (.tup [.int (p : Nat), oV (some ((L.reignAt p).getD 0)), .ref m, .str (tS true)])) fo (L.folded p) := ⟨m, upd_same, s2 _ _ hm⟩
    refine ⟨_, rfl, fo, L.folded p, rfl, hF, G, fun H2 s3 => ?_⟩
    have hL2 := hL1.same (s2.trans s3)
    refine ⟨_, rfl, _, rfl, L, hL2, fun ra vs hra hvs => ?_⟩
    refine ⟨_, rfl, _, rfl, L, hL2, _, _, rfl, rfl, _, rfl, ra, vs, p - L.P, rfl, hra, congrArg some (by omega), rfl, fun c H3 s4 hc => ⟨by show 2 ≤ sizeLine; decide, fun z nz => ?_⟩⟩
    have s5 := s4.trans (new_ (o := .tup [.ref fo, .ref c]) nz)
    exact q _ _ (((s1.trans s2).trans s3).trans s5) ⟨z, fo, c, _, rfl, upd_same, (hF.same s3).same s5, new_ nz _ _ hc, rows_same s5 (pd_drop _ hvs)⟩
def sp_fold_taken : Sp := fun vs H Q _ => ∃ (x : V) (a : Addr) (L G : Lo), vs = [x, .ref a] ∧ LogAt H x L ∧ FoldAt H a G ∧ GoodF G ∧ ∀ H' z, Same H H' → LogAt H' z (L.foldTaken G) → Q z H'
theorem ok_fold_taken (T : Txt K mg) (F : Fun K "fold_taken" "fold_taken" s_fold_taken f fd) : FnOk P w K mg base CX0 6 f fd ["log", "fold"] sp_fold_taken := by
  obtain ⟨f2, d2, D2⟩ := T.d_reign_at
  obtain ⟨f3, d3, D3⟩ := T.d_need_fold
  refine F.ok sc_fold_taken (fun vs H Q E h => ?_) (fun cdv A outer s H vs Q E hr h => ?_)
  · obtain ⟨x, a, L, G, rfl, _⟩ := h
    rfl
  · obtain ⟨x, a, L, G, rfl, hL, hG, gG, q⟩ := h
    refine ⟨_, pss_cons (ps_expr (cl D3 (ok_need_fold T D3.fn) hr (pa_cons (pv 1) pa_nil)))
      (pss_cons (ps_if (pt_cmpR op_lt (pe_ixn 0 (pv 1)) (pe_P (pv 0)) (nomark _)) (pss_one (ps_ret (pv 0))) pss_nil)
      (pss_cons (ps_if (pt_cmpR op_eq (cl D2 (ok_reign_at T D2.fn) (hr.mono (by decide)) (pa_cons (pv 0) (pa_cons (pe_ixn 0 (pv 1)) pa_nil))) (pe_ixn 1 (pv 1)) (nomark _))
        (pss_one (ps_ret (pe_tup (pa_cons (pv 1) (pa_cons (pe_slice sl_from (pe_rows (pv 0)) (po_some (pe_op op_sub (pe_ixn 0 (pv 1)) (pe_P (pv 0)))) po_none) pa_nil))))) pss_nil)
      (pss_one (ps_ret (pe_tup (pa_cons (pv 1) (pa_cons (pe_tup pa_nil) pa_nil))))))), ?_⟩
    refine ⟨_, rfl, a, G, rfl, hG, gG, fun H1 s1 => ?_⟩
    have hL1 := hL.same s1
    obtain ⟨m, hf, hm⟩ := hG.same s1
    refine ⟨_, rfl, a, _, _, rfl, hf, rfl, _, rfl, L, hL1, _, _, rfl, rfl, _, rfl, ite2 (fun c => ?_) (fun c => ?_)⟩
    · have c1 : G.P < L.P := by
        have := of_decide_eq_true c
        omega
      refine ⟨_, rfl, q H1 x s1 ?_⟩
      unfold Lg.foldTaken
      rw [if_pos c1]
      exact hL1
    · have c1 : ¬ G.P < L.P := fun z => c (decide_eq_true (by omega))
      refine ⟨_, rfl, _, rfl, a, _, _, rfl, hf, rfl, x, L, G.P, rfl, hL1, _, rfl, a, _, _, rfl, hf, rfl, by cases L.reignAt G.P <;> rfl, _, rfl, ite2 (fun c2 => ?_) (fun c2 => ?_)⟩
      · have c3 : L.reignAt G.P = some G.R := by
          cases e : L.reignAt G.P with
          | none =>
            rw [e] at c2
            simp [oV] at c2
          | some z =>
            rw [e] at c2
            simp [oV] at c2
            rw [show z = G.R by omega]
        refine ⟨_, rfl, _, rfl, L, hL1, fun ra vs hra hvs => ?_⟩
        refine ⟨_, rfl, a, _, _, rfl, hf, rfl, _, rfl, L, hL1, _, _, rfl, rfl, _, rfl, ra, vs, G.P - L.P, rfl, hra, congrArg some (by omega), rfl, fun c H3 s4 hc => ⟨by show 2 ≤ sizeLine; decide, fun z nz => ?_⟩⟩
        have s5 := s4.trans (new_ (o := .tup [.ref a, .ref c]) nz)
        refine q _ _ (s1.trans s5) ?_
        unfold Lg.foldTaken
        rw [if_neg c1, if_pos c3]
        exact ⟨z, a, c, _, rfl, upd_same, ⟨m, s5 _ _ hf, s5 _ _ hm⟩, new_ nz _ _ hc, rows_same s5 (pd_drop _ hvs)⟩
      · have c3 : L.reignAt G.P ≠ some G.R := fun z => c2 (by rw [z]; exact decide_eq_true rfl)
        refine ⟨_, rfl, by show 0 ≤ sizeLine; decide, fun c nc => ⟨by show 2 ≤ sizeLine; decide, fun z nz => ?_⟩⟩
        have s5 := (new_ (o := .tup []) nc).trans (new_ (o := .tup [.ref a, .ref c]) nz)
        refine q _ _ (s1.trans s5) ?_
        unfold Lg.foldTaken
        rw [if_neg c1, if_neg c3]
        exact ⟨z, a, c, [], rfl, upd_same, ⟨m, s5 _ _ hf, s5 _ _ hm⟩, new_ nz _ _ upd_same, .nil⟩
end
end K7
namespace K7
open PySem PySem.Spec PyProof.Rows L2
/-! ### lists -/
theorem er_map {α β : Type} (f : α → β) : ∀ (l : List α) (i : Nat), (l.map f).eraseIdx i = (l.eraseIdx i).map f
  | [], _ => rfl
  | _ :: _, 0 => rfl
  | x :: l, i + 1 => by
    show f x :: (l.map f).eraseIdx i = f x :: (l.eraseIdx i).map f
    rw [er_map f l i]
theorem er_perm {α : Type} : ∀ {l : List α} {i : Nat} {x : α}, l[i]? = some x → (x :: l.eraseIdx i).Perm l
  | [], _, _, h => by simp at h
  | y :: l, 0, x, h => by
    cases Option.some.inj h
    exact .refl _
  | y :: l, i + 1, x, h => by
    have q : (x :: l.eraseIdx i).Perm l := er_perm (l := l) (i := i) h
    exact (List.Perm.swap _ _ _).trans (q.cons y)
theorem er_len {α : Type} {l : List α} {i : Nat} (h : i < l.length) : (l.eraseIdx i).length = l.length - 1 := by
  rw [List.length_eraseIdx]
  simp [h]
theorem nat_of {r : Int} (h : 0 ≤ r) : ((r.toNat : Nat) : Int) = r := Int.toNat_of_nonneg h
theorem pick {xs : List V} {r : Int} (h0 : 0 ≤ r) (h1 : r < xs.length) : ∃ v, atI xs r = some v ∧ v ∈ xs := by
  have h : r.toNat < xs.length := by omega
  exact ⟨xs[r.toNat], at_of (j := r.toNat) (nat_of h0).symm (List.getElem?_eq_getElem h), List.getElem_mem h⟩
/-! ### what is drawn -/
def StreamAt (H : Hp) (s : Addr) (n : Nat) : Prop := ∃ (b : Bool) (c k m : Int), H s = some (.lst [.bl b, .int c, .int k, .int m]) ∧ 0 ≤ k ∧ k ≤ n
theorem StreamAt.mono {H : Hp} {s : Addr} {n m : Nat} (h : StreamAt H s n) (q : n ≤ m) : StreamAt H s m := let ⟨b, c, k, l, e, h0, h1⟩ := h; ⟨b, c, k, l, e, h0, by omega⟩
theorem StreamAt.kp {l : List Addr} {H H' : Hp} {s : Addr} {n : Nat} (k : Kp l H H') (hs : s ∉ l) (h : StreamAt H s n) : StreamAt H' s n := let ⟨b, c, k', l, e, h0, h1⟩ := h; ⟨b, c, k', l, k.lst _ _ hs e, h0, h1⟩
theorem StreamAt.same {H H' : Hp} {s : Addr} {n : Nat} (k : Same H H') (h : StreamAt H s n) : StreamAt H' s n := h.kp (l := []) (.of k) (by simp)
section
variable {X : Cx} {a : Expr} {ta : TE} {pos : Pos}
/-- the k-th item of a list -/
def tLx (k : Nat) (ta : TE) : TE := fun σ H Q => ta σ H fun x H1 => ∃ a xs v, x = .ref a ∧ H1 a = some (.lst xs) ∧ xs[k]? = some v ∧ Q v H1
theorem pe_lxk (k : Nat) {j : Nat} {p2 : Pos} (ha : PE X a ta) : PE X (.Subscript a (.Constant (.int (k : Int)) j p2) pos) (tOp (rIxL X.K) ta (tC (.int (k : Int)))) := pe_ix ix_list ha pe_int (fun _ _ => rfl)
theorem pe_lxn (k : Nat) {j : Nat} {p2 : Pos} (ha : PE X a ta) : PE X (.Subscript a (.Constant (.int (k : Int)) j p2) pos) (tLx k ta) :=
  PE_imp (pe_lxk k (pe_mo ha)) fun _ _ _ q => ⟨_, q, fun _ _ ⟨a, xs, v, e, h, hv, q⟩ => ⟨a, xs, _, v, e, rfl, SqL.of h, atI_nat hv, q⟩⟩
end
section
variable {P : Program} {w : World} {K : PySem.W.Frag} {mg : Str → Option Value} {base : Heap} {f : Addr} {fd : FuncData}
def sp_mixed : Sp := fun vs H Q _ => ∃ n k : Int, vs = [.int n, .int k] ∧ 0 ≤ k ∧ k ≤ 1000 ∧ ∀ r : Int, Q (.int r) H
theorem ok_mixed (T : Txt K mg) (F : Fun K "_law_mixed" "_law_mixed" s_l_mixed f fd) : FnOk P w K mg base CX0 1 f fd ["_law_number", "_law_k"] sp_mixed := by
  refine F.ok sc_l_mixed (fun vs H Q E h => ?_) (fun cdv A outer s H vs Q E hr h => ?_)
  · obtain ⟨n, k, rfl, _⟩ := h
    rfl
  · obtain ⟨n, k, rfl, k0, k1, q⟩ := h
    refine ⟨_, pss_cons (ps_set (i := 0) sc_l_mixed.nd rfl (.inl rfl) (pe_op op_modN (pe_op op_mul (pe_op op_add (pe_op op_add (pe_op op_modN (pv 0) pe_int) (pe_op op_mul (pe_op op_mul pe_int (pv 1)) (pv 1))) (pe_op op_mul pe_int (pv 1))) pe_int) pe_int))
      (pss_one (ps_ret (pe_op op_modN (pe_op op_mul (pv 0) (pe_op op_add pe_int (pe_op op_mul pe_int (pv 1)))) pe_int))), ?_⟩
    refine ⟨_, rfl, _, _, rfl, rfl, (by show (2147483647 : Int) ≠ 0; decide), _, rfl, _, _, rfl, rfl, .inl ⟨by decide, by decide⟩, _, rfl, _, _, rfl, rfl, .inr ⟨by omega, by omega⟩, _, _, rfl, rfl, _, rfl, _, _, rfl, rfl, .inl ⟨by decide, by decide⟩, _, _, rfl, rfl,
      _, _, rfl, rfl, .inr ⟨by decide, by decide⟩, _, _, rfl, rfl, (by show (2147483647 : Int) ≠ 0; decide), ?_⟩
    refine ⟨_, rfl, _, rfl, _, _, rfl, rfl, .inl ⟨by decide, by decide⟩, _, _, rfl, rfl, _, _, rfl, rfl, .inr ⟨by omega, by omega⟩, _, _, rfl, rfl, (by show (2147483629 : Int) ≠ 0; decide), q _⟩
def sp_stream : Sp := fun vs H Q _ => ∃ (x : V) (c k : Int), vs = [x, .int c, .int k] ∧ 0 ≤ k ∧ k ≤ 1000 ∧ ∀ H' s, Same H H' → H s = none → StreamAt H' s 0 → Q (.ref s) H'
theorem ok_stream (T : Txt K mg) (F : Fun K "_law_stream" "_law_stream" s_l_stream f fd) : FnOk P w K mg base CX0 2 f fd ["_law_script", "_law_cell", "_law_k"] sp_stream := by
  obtain ⟨f1, d1, D1⟩ := T.d_l_mixed
  refine F.ok sc_l_stream (fun vs H Q E h => ?_) (fun cdv A outer s H vs Q E hr h => ?_)
  · obtain ⟨x, c, k, rfl, _⟩ := h
    rfl
  · obtain ⟨x, c, k, rfl, k0, k1, q⟩ := h
    refine ⟨_, pss_one (ps_ret (pe_lst (pa_cons (pe_cmpR op_ge (pv 1) (pe_op op_pow pe_int pe_int) (nomark _)) (pa_cons (pv 1) (pa_cons pe_int (pa_cons (cl D1 (ok_mixed T D1.fn) hr (pa_cons (pv 1) (pa_cons (pv 2) pa_nil))) pa_nil)))))), ?_⟩
    refine ⟨_, rfl, _, _, rfl, rfl, ⟨by decide, by decide, by decide⟩, _, _, rfl, rfl, _, rfl, _, rfl, _, rfl, _, _, rfl, k0, k1, fun r => ⟨by show 4 ≤ sizeLine; decide, fun p np => ?_⟩⟩
    exact q _ p (new_ np) np ⟨_, _, _, _, upd_same, Int.le_refl _, Int.le_refl _⟩
def sp_take : Sp := fun vs H Q _ => ∃ (s : Addr) (n : Nat) (many : Int), vs = [.ref s, .int many] ∧ StreamAt H s n ∧ n ≤ 900 ∧ 1 ≤ many ∧ many ≤ 1000000 ∧ ∀ r H', 0 ≤ r → r < many → Kp [s] H H' → StreamAt H' s (n + 1) → Q (.int r) H'
theorem ok_take (T : Txt K mg) (F : Fun K "_law_take" "_law_take" s_l_take f fd) : FnOk P w K mg base CX0 2 f fd ["_law_stream_here", "_law_many"] sp_take := by
  obtain ⟨f1, d1, D1⟩ := T.d_l_mixed
  refine F.ok sc_l_take (fun vs H Q E h => ?_) (fun cdv A outer s H vs Q E hr h => ?_)
  · obtain ⟨x, c, k, rfl, _⟩ := h
    rfl
  · obtain ⟨t, n, many, rfl, ⟨b, c, k, m, ht, k0, k1⟩, hn, m1, m2, q⟩ := h
    refine ⟨_, pss_cons (ps_asg (pe_op op_add (pe_lxn 2 (pv 0)) pe_int) (pg_sub (pv 0) pe_int set_list))
      (pss_cons (ps_if (PW.pt (pw_or (pt_not (pt_val (pe_lxn 0 (pv 0)))) (pw_or (pt_cmpR op_in_seq (pe_lxn 1 (pv 0)) (pe_tup (pa_cons pe_int (pa_cons (pe_un un_neg pe_int) pa_nil))) (by rfl)) (pw_or1 (pt_cmpR op_gt (pe_lxn 2 (pv 0)) pe_int (nomark _))))))
        (pss_one (ps_ret (pe_op op_modN (cl D1 (ok_mixed T D1.fn) hr (pa_cons (cl D1 (ok_mixed T D1.fn) hr (pa_cons (pe_lxn 3 (pv 0)) (pa_cons (pe_lxn 2 (pv 0)) pa_nil))) (pa_cons pe_int pa_nil))) (pv 1)))) pss_nil)
      (pss_cons (ps_set (i := 2) sc_l_take.nd rfl (.inl rfl) (pe_op op_modN (pe_lxn 1 (pv 0)) (pv 1)))
      (pss_cons (ps_asg (pe_op op_fdivN (pe_lxn 1 (pv 0)) (pv 1)) (pg_sub (pv 0) pe_int set_list))
      (pss_one (ps_ret (pv 2)))))), ?_⟩
    refine ⟨_, rfl, t, _, _, rfl, ht, rfl, _, _, rfl, rfl, _, rfl, t, _, 2, 2, rfl, rfl, ht, rfl, ?_⟩
    have kH : ∀ {c' : Int}, Kp [t] H (upd H t (.lst [.bl b, .int c', .int (k + 1), .int m])) := Kp.upd ht (by simp)
    have hs : ∀ {H1 : Hp} {c' : Int}, H1 t = some (.lst [.bl b, .int c', .int (k + 1), .int m]) → StreamAt H1 t (n + 1) := fun h => ⟨_, _, _, _, h, by omega, by omega⟩
    have e1 : (upd H t (.lst [.bl b, .int c, .int (k + 1), .int m])) t = some (.lst [.bl b, .int c, .int (k + 1), .int m]) := upd_same
    have hm0 : many ≠ 0 := by omega
    have fin1 : ∀ H1, Same (upd H t (.lst [.bl b, .int c, .int (k + 1), .int m])) H1 → ∀ r, Q (.int (Int.fmod r many)) H1 := fun H1 s1 r =>
      q _ _ (by rw [Int.fmod_eq_emod_of_nonneg _ (by omega)]; exact Int.emod_nonneg _ hm0) (by rw [Int.fmod_eq_emod_of_nonneg _ (by omega)]; exact Int.emod_lt_of_pos _ (by omega)) (kH.trans (.of s1)) (hs (s1 _ _ e1))
    have mix : ∀ H1, Same (upd H t (.lst [.bl b, .int c, .int (k + 1), .int m])) H1 → tOp (rI (fun _ j => j ≠ 0) fun i j => .int (i.fmod j)) (tCall sp_mixed [] E0 (tCons (tCall sp_mixed [] E0 (tCons (tLx 3 (tVar 0)) (tCons (tLx 2 (tVar 0)) tNil))) (tCons (tC (.int 7)) tNil))) (tVar 1) [some (.ref t), some (.int many), none] H1 Q := fun H1 s1 =>
      ⟨_, rfl, t, _, _, rfl, s1 _ _ e1, rfl, _, rfl, t, _, _, rfl, s1 _ _ e1, rfl, _, _, rfl, by omega, by omega, fun r1 => ⟨_, _, rfl, by decide, by decide, fun r2 => ⟨_, rfl, _, _, rfl, rfl, hm0, fin1 H1 s1 r2⟩⟩⟩
    refine ⟨_, rfl, t, _, _, rfl, e1, rfl, b, rfl, ?_⟩
    cases b with
    | false =>
      refine iteT ?_
      exact mix _ (Same.refl _)
    | true =>
      refine iteF ?_
      refine ⟨_, rfl, t, _, _, rfl, e1, rfl, _, rfl, by show 2 ≤ sizeLine; decide, fun u nu => ?_⟩
      have s1 := new_ (o := .tup [.int 0, .int (-1)]) nu
      refine ⟨u, _, rfl, .inr (SqT.of upd_same), rfl, rfl, _, rfl, ite2 (fun _ => ?_) (fun _ => ?_)⟩
      · exact mix _ s1
      · refine ⟨_, rfl, t, _, _, rfl, s1 _ _ e1, rfl, _, _, rfl, rfl, _, rfl, ite2 (fun _ => ?_) (fun _ => ?_)⟩
        · exact mix _ s1
        · refine ⟨_, rfl, t, _, _, rfl, s1 _ _ e1, rfl, _, rfl, _, _, rfl, rfl, hm0, ?_⟩
          refine ⟨_, rfl, t, _, _, rfl, s1 _ _ e1, rfl, _, rfl, _, _, rfl, rfl, ⟨hm0, by omega⟩, _, rfl, t, _, 1, 1, rfl, rfl, s1 _ _ e1, rfl, ?_⟩
          refine ⟨_, rfl, q _ _ (by rw [Int.fmod_eq_emod_of_nonneg _ (by omega)]; exact Int.emod_nonneg _ hm0) (by rw [Int.fmod_eq_emod_of_nonneg _ (by omega)]; exact Int.emod_lt_of_pos _ (by omega)) ((kH.trans (.of s1)).trans (Kp.upd (s1 _ _ e1) (by simp))) (hs upd_same)⟩
end
end K7
namespace K7
open PySem PySem.Spec PyProof.Rows L2
/-! ### texts -/
/-- a text of signs, of m at most -/
def sOk (m : Nat) (z : Str) : Prop := (∀ c ∈ z.cps.toList, c < 0x110000) ∧ z.length ≤ m
theorem sOk.str {m : Nat} {z : Str} (h : sOk m z) : PyData.strOk z = true := by
  unfold PyData.strOk
  rw [← Array.all_toList, List.all_eq_true]
  intro c hc
  exact decide_eq_true (h.1 c hc)
theorem sOk.app {m n : Nat} {x y : Str} (a : sOk m x) (b : sOk n y) : sOk (m + n) (x ++ y) := by
  have e : (x ++ y).cps.toList = x.cps.toList ++ y.cps.toList := Array.toList_append
  refine ⟨fun c hc => ?_, ?_⟩
  · rw [e] at hc
    rcases List.mem_append.mp hc with h | h
    · exact a.1 c h
    · exact b.1 c h
  · have h1 : (x ++ y).length = x.length + y.length := Array.size_append
    have := a.2
    have := b.2
    omega
theorem sOk.cut {m : Nat} {z : Str} (a : sOk m z) (lo hi : Option Int) : sOk m (cutS z lo hi) := by
  refine ⟨fun c hc => ?_, ?_⟩
  · have h1 : c ∈ ((z.cps.toList.drop (HT.sIx z.length 0 lo)).take (HT.sIx z.length z.length hi - HT.sIx z.length 0 lo)) := hc
    exact a.1 c (List.mem_of_mem_drop (List.mem_of_mem_take h1))
  · have h1 : (cutS z lo hi).length = ((z.cps.toList.drop (HT.sIx z.length 0 lo)).take (HT.sIx z.length z.length hi - HT.sIx z.length 0 lo)).length := rfl
    rw [h1, List.length_take, List.length_drop]
    have h2 : z.cps.toList.length = z.length := rfl
    have := a.2
    omega
theorem sOk.one {c : Nat} (h : c < 0x110000) : sOk 1 (⟨#[c]⟩ : Str) := ⟨fun d hd => by
  have h1 : d ∈ [c] := hd
  rw [List.mem_singleton.mp h1]
  exact h, Nat.le_refl _⟩
section
variable {P : Program} {w : World} {K : PySem.W.Frag} {mg : Str → Option Value} {base : Heap} {f : Addr} {fd : FuncData}
def sp_members_by : Sp := fun vs H Q _ => ∃ (s : Addr) (n : Nat), vs = [.ref s] ∧ StreamAt H s n ∧ n ≤ 800 ∧ ∀ H' m ns, Kp [s] H H' → StreamAt H' s (n + 8) → H' m = some (.tup (ns.map V.int)) → GoodM ns → Q (.ref m) H'
theorem ok_members_by (T : Txt K mg) (F : Fun K "_law_members_by" "_law_members_by" s_l_members_by f fd) : FnOk P w K mg base CX0 3 f fd ["_law_stream_here"] sp_members_by := by
  obtain ⟨f1, d1, D1⟩ := T.d_l_take
  refine F.ok sc_l_members_by (fun vs H Q E h => ?_) (fun cdv A outer s H vs Q E hr h => ?_)
  · obtain ⟨x, c, rfl, _⟩ := h
    rfl
  · obtain ⟨t, n, rfl, ht, hn, q⟩ := h
    refine ⟨_, pss_cons (ps_set (i := 1) sc_l_members_by.nd rfl (.inl rfl) (pe_listRg rfl (by rfl) T.n_list (prg_1 (by rfl) T.n_range pe_int)))
      (pss_cons (ps_set (i := 2) sc_l_members_by.nd rfl (.inl rfl) (pe_lst pa_nil))
      (pss_cons (ps_for PassesOwn.never rfl (pi_range1 (by rfl) T.n_range (pa_cons (pe_op op_add pe_int (cl D1 (ok_take T D1.fn) hr (pa_cons (pv 0) (pa_cons pe_int pa_nil)))) pa_nil)) (pg_name (i := 3) sc_l_members_by.nd rfl (.inl rfl))
        (pss_one (ps_expr (pe_bm PySem.F.plainAttrs_list PySem.F.slot_list_append PySem.F.type_list_append mt_append (pv 2) (pa_cons (pe_bm PySem.F.plainAttrs_list PySem.F.slot_list_pop PySem.F.type_list_pop mt_popAt (pv 1)
          (pa_cons (cl D1 (ok_take T D1.fn) hr (pa_cons (pv 0) (pa_cons (pe_callB call_len_seq (by rfl) T.n_len PySem.boot_len (pa_cons (pv 1) pa_nil)) pa_nil))) pa_nil)) pa_nil)))))
      (pss_one (ps_ret (pe_callTy call_tuple_of (by rfl) T.n_tuple (by decide +kernel) (pa_cons (pe_callB cr_sorted (by rfl) T.n_sorted (by decide +kernel) (pa_cons (pv 2) pa_nil)) pa_nil)))))), ?_⟩
    refine ⟨9, rfl, RgOk.of_le (by decide) (by decide) (by decide) (by decide), fun l nl => ?_⟩
    have e9 : rgV 0 9 = ([0, 1, 2, 3, 4, 5, 6, 7, 8] : List Int).map V.int := by decide +kernel
    rw [e9]
    have s1 := new_ (o := .lst (([0, 1, 2, 3, 4, 5, 6, 7, 8] : List Int).map V.int)) nl
    refine ⟨Nat.zero_le _, fun o no => ?_⟩
    have s2 := new_ (o := .lst []) no
    have nlo : l ≠ o := ne_of_none upd_same no
    have ht2 : StreamAt (upd (upd H l (.lst (([0, 1, 2, 3, 4, 5, 6, 7, 8] : List Int).map V.int))) o (.lst [])) t n := ht.same (s1.trans s2)
    have ntl : l ≠ t := fun z => by
      obtain ⟨_, _, _, _, e, _⟩ := ht
      rw [z, e] at nl
      cases nl
    have noH : H o = none := free_back s1 no
    have nto : o ≠ t := fun z => by
      obtain ⟨_, _, _, _, e, _⟩ := ht
      rw [z, e] at noH
      cases noH
    refine ⟨_, rfl, t, n, 7, rfl, ht2, by omega, by decide, by decide, fun r H1 r0 r1 k1 ht3 => ⟨1, r, rfl, rfl, 1 + r, rfl, by omega, by omega, ?_⟩⟩
    refine for_range (lo := 0) (n := (1 + r).toNat) (fun i σ H2 => ∃ (y : Option V) (fo le : List Int), σ = [some (.ref t), some (.ref l), some (.ref o), y] ∧ Kp [t] H H2 ∧ StreamAt H2 t (n + 1 + i) ∧ H2 l = some (.lst (le.map V.int)) ∧ H2 o = some (.lst (fo.map V.int)) ∧
      fo.length = i ∧ le.length = 9 - i ∧ (fo ++ le).Nodup ∧ ∀ x ∈ fo ++ le, 0 ≤ x ∧ x ≤ 8)
      ⟨none, [], [0, 1, 2, 3, 4, 5, 6, 7, 8], rfl, (Kp.of (s1.trans s2)).trans k1, ht3, k1.lst _ _ (by simpa using ntl) (s2 _ _ upd_same), k1.lst _ _ (by simpa using nto) upd_same, rfl, rfl, by decide, by decide⟩ (fun i σ H2 hi p => ?_) (fun σ H2 p => ?_)
    · obtain ⟨y, fo, le, rfl, k2, hs2, hl, ho, z1, z2, nd, inn⟩ := p
      refine ⟨_, rfl, .inl ⟨rfl, _, SqL.of ho⟩, _, rfl, .inl ⟨rfl, _, SqL.of hl⟩, _, rfl, _, rfl, l, _, rfl, .inl (SqL.of hl), t, _, _, rfl, hs2, by omega, ?_, ?_, fun j H3 j0 j1 k3 hs3 => ?_⟩
      · rw [List.length_map]
        omega
      · rw [List.length_map]
        omega
      rw [List.length_map] at j1
      have hl3 := k3.lst _ _ (by simpa using ntl) hl
      have ho3 := k3.lst _ _ (by simpa using nto) ho
      have jl : j.toNat < le.length := by omega
      have ej : (le.map V.int)[j.toNat]? = some (.int le[j.toNat]) := by
        rw [List.getElem?_map, List.getElem?_eq_getElem jl]
        rfl
      refine ⟨l, _, j, j.toNat, _, rfl, rfl, hl3, by omega, by omega, seqIndex_of j0 (by rw [List.length_map]; exact j1), ej, ?_⟩
      refine ⟨o, fo.map V.int, .int le[j.toNat], rfl, rfl, by rw [upd_ne nlo.symm]; exact ho3, size_lt (by rw [List.length_map]; omega), ?_⟩
      have pm : ((fo ++ [le[j.toNat]]) ++ le.eraseIdx j.toNat).Perm (fo ++ le) := by
        rw [List.append_assoc]
        exact (er_perm (List.getElem?_eq_getElem jl)).append_left fo
      refine ⟨_, fo ++ [le[j.toNat]], le.eraseIdx j.toNat, rfl, ((k2.trans k3).mut nl).mut noH, ?_, ?_, ?_, ?_, ?_, pm.nodup_iff.mpr nd, fun x hx => inn x (pm.mem_iff.mp hx)⟩
      · obtain ⟨b, c, k, m, e, e0, e1⟩ := hs3
        exact ⟨b, c, k, m, by rw [upd_ne (Ne.symm nto), upd_ne (Ne.symm ntl)]; exact e, e0, by omega⟩
      · rw [upd_ne nlo, upd_same, er_map]
      · rw [upd_same, List.map_append]
        rfl
      · rw [List.length_append, List.length_singleton, z1]
      · rw [er_len jl]
        omega
    · obtain ⟨y, fo, le, rfl, k2, hs2, hl, ho, z1, z2, nd, inn⟩ := p
      have zf : fo.length ≤ 7 := by omega
      refine ⟨_, rfl, o, fo, rfl, SqL.of ho, by omega, fun ns p pm so np => ?_⟩
      refine ⟨p, _, rfl, .inl ⟨SqL.of upd_same, fun m nm => ?_⟩⟩
      have s3 := (new_ (o := .lst (ns.map V.int)) np).trans (new_ (o := .tup (ns.map V.int)) nm)
      refine q _ m ns (k2.trans (.of s3)) ((hs2.same s3).mono (by omega)) upd_same ⟨?_, ?_, fun x hx => inn x (List.mem_append_left _ (pm.mem_iff.mp hx)), ?_⟩
      · rw [pm.length_eq]
        omega
      · rw [pm.length_eq]
        exact zf
      · have nd2 : ns.Nodup := pm.nodup_iff.mpr (List.nodup_append.mp nd).1
        exact (so.and nd2).imp fun h => by omega
end
end K7
namespace K7
open PySem PySem.Spec PyProof.Rows L2
section
variable {P : Program} {w : World} {K : PySem.W.Frag} {mg : Str → Option Value} {base : Heap} {f : Addr} {fd : FuncData}
theorem at_of' {α : Type} {xs : List α} {z : Int} {j : Nat} {v : α} (e : z = (j : Int)) (h : xs[j]? = some v) : atI xs z = some v := by
  rw [e]
  exact atI_nat h
theorem pickI {H : Hp} {l : Addr} {xs : List V} {r : Int} {Q : VK} (h : H l = some (.lst xs)) (h0 : 0 ≤ r) (h1 : r < (xs.length : Int)) (q : ∀ v ∈ xs, Q v H) : rIxL K (.ref l) (.int r) H Q := by
  obtain ⟨v, ev, hv⟩ := pick h0 h1
  exact ⟨l, xs, r, v, rfl, rfl, SqL.of h, ev, q v hv⟩
def sp_value_by : Sp := fun vs H Q _ => ∃ (s : Addr) (n : Nat), vs = [.ref s] ∧ StreamAt H s n ∧ n ≤ 800 ∧ ∀ H' (z : Int), Kp [s] H H' → StreamAt H' s (n + 4) → Q (.int z) H'
theorem ok_value_by (T : Txt K mg) (F : Fun K "_law_value_by" "_law_value_by" s_l_value_by f fd) : FnOk P w K mg base CX0 3 f fd ["_law_stream_here"] sp_value_by := by
  obtain ⟨f1, d1, D1⟩ := T.d_l_take
  refine F.ok sc_l_value_by (fun vs H Q E h => ?_) (fun cdv A outer s H vs Q E hr h => ?_)
  · obtain ⟨x, c, rfl, _⟩ := h
    rfl
  · obtain ⟨t, n, rfl, ht, hn, q⟩ := h
    refine ⟨_, pss_cons (ps_set (i := 1) sc_l_value_by.nd rfl (.inl rfl) (pe_op op_sub (cl D1 (ok_take T D1.fn) hr (pa_cons (pv 0) (pa_cons pe_int pa_nil))) pe_int))
      (pss_one (ps_ret (pe_ix ix_list (pe_lst (pa_cons (pv 1) (pa_cons (pe_op op_sub (pe_op op_pow pe_int pe_int) (cl D1 (ok_take T D1.fn) hr (pa_cons (pv 0) (pa_cons pe_int pa_nil))))
        (pa_cons (pe_op op_sub (cl D1 (ok_take T D1.fn) hr (pa_cons (pv 0) (pa_cons pe_int pa_nil))) (pe_op op_pow pe_int pe_int)) pa_nil)))) (cl D1 (ok_take T D1.fn) hr (pa_cons (pv 0) (pa_cons pe_int pa_nil))) (fun _ _ => rfl)))), ?_⟩
    refine ⟨_, rfl, t, n, 7, rfl, ht, by omega, by decide, by decide, fun r H1 _ _ k1 h1 => ⟨_, _, rfl, rfl, ?_⟩⟩
    refine ⟨_, rfl, _, _, rfl, rfl, ⟨by decide, by decide, by decide⟩, _, rfl, t, _, 3, rfl, h1, by omega, by decide, by decide, fun r2 H2 _ _ k2 h2 => ⟨_, _, rfl, rfl, ?_⟩⟩
    refine ⟨_, rfl, t, _, 3, rfl, h2, by omega, by decide, by decide, fun r3 H3 _ _ k3 h3 => ⟨_, _, rfl, rfl, ⟨by decide, by decide, by decide⟩, _, _, rfl, rfl, by show 3 ≤ sizeLine; decide, fun l nl => ?_⟩⟩
    have nlt : l ≠ t := fun z => by
      obtain ⟨_, _, _, _, e, _⟩ := h3
      rw [z, e] at nl
      cases nl
    refine ⟨_, rfl, t, _, 3, rfl, h3.same (new_ nl), by omega, by decide, by decide, fun r4 H4 a0 a1 k4 h4 => ?_⟩
    have hl := k4.lst _ _ (by simpa using nlt) upd_same
    have q' : ∀ z : Int, Q (.int z) H4 := fun z => q H4 z ((((k1.trans k2).trans k3).trans (.new nl)).trans k4) (h4.mono (by omega))
    refine pickI hl a0 a1 fun v hv => ?_
    simp only [List.mem_cons, List.not_mem_nil, or_false] at hv
    rcases hv with rfl | rfl | rfl <;> exact q' _
def sp_key_by : Sp := fun vs H Q _ => ∃ (s : Addr) (n : Nat), vs = [.ref s] ∧ StreamAt H s n ∧ n ≤ 800 ∧ ∀ H' (z : Str), Kp [s] H H' → StreamAt H' s (n + 3) → PyData.strOk z = true → Q (.str z) H'
theorem ok_key_by (T : Txt K mg) (F : Fun K "_law_key_by" "_law_key_by" s_l_key_by f fd) : FnOk P w K mg base CX0 3 f fd ["_law_stream_here"] sp_key_by := by
  obtain ⟨f1, d1, D1⟩ := T.d_l_take
  refine F.ok sc_l_key_by (fun vs H Q E h => ?_) (fun cdv A outer s H vs Q E hr h => ?_)
  · obtain ⟨x, c, rfl, _⟩ := h
    rfl
  · obtain ⟨t, n, rfl, ht, hn, q⟩ := h
    refine ⟨_, pss_cons (ps_set (i := 1) sc_l_key_by.nd rfl (.inl rfl) (pe_slice sl_str pe_str po_none (po_some (cl D1 (ok_take T D1.fn) hr (pa_cons (pv 0) (pa_cons pe_int pa_nil))))))
      (pss_cons (ps_set (i := 2) sc_l_key_by.nd rfl (.inl rfl) (cl D1 (ok_take T D1.fn) hr (pa_cons (pv 0) (pa_cons (pe_op op_add (pe_callB call_len_str (by rfl) T.n_len PySem.boot_len (pa_cons (pv 1) pa_nil)) pe_int) pa_nil))))
      (pss_one (ps_ret (pe_op op_add_str (pe_op op_add_str (pe_slice sl_str (pv 1) po_none (po_some (pv 2))) (pe_ix ix_str pe_str (cl D1 (ok_take T D1.fn) hr (pa_cons (pv 0) (pa_cons pe_int pa_nil))) (fun _ _ => rfl))) (pe_slice sl_str (pv 1) (po_some (pv 2)) po_none))))), ?_⟩
    have ob : sOk 7 ("abcdefg" : Str) := ⟨by decide +kernel, by decide +kernel⟩
    have ox : ∀ c ∈ ("xyz" : Str).cps.toList, c < 0x110000 := by decide +kernel
    have lx : ("xyz" : Str).cps.toList.length = 3 := by decide +kernel
    refine ⟨_, rfl, t, n, 8, rfl, ht, by omega, by decide, by decide, fun r H1 _ _ k1 h1 => ⟨r, rfl, _, rfl, size_small (by have := ob.2; omega), ?_⟩⟩
    have oc := ob.cut none (some r)
    generalize cutS ("abcdefg" : Str) none (some r) = z at oc ⊢
    have lz := oc.2
    refine ⟨_, rfl, _, rfl, z, rfl, size_small (by omega), _, _, rfl, rfl, t, _, _, rfl, h1, by omega, by omega, by omega, fun r2 H2 b0 b1 k2 h2 => ?_⟩
    refine ⟨_, rfl, _, rfl, _, rfl, z, rfl, size_small (by omega), ?_⟩
    refine ⟨_, rfl, t, _, 3, rfl, h2, by omega, by decide, by decide, fun r3 H3 c0 c1 k3 h3 => ?_⟩
    have hlt : r3.toNat < ("xyz" : Str).cps.toList.length := by
      rw [lx]
      omega
    refine ⟨_, r3, ("xyz" : Str).cps.toList[r3.toNat], rfl, rfl, by decide +kernel, at_of' (j := r3.toNat) (nat_of c0).symm (List.getElem?_eq_getElem hlt), ?_⟩
    have oo := sOk.one (ox _ (List.getElem_mem hlt))
    have o1 := oc.cut none (some r2)
    have o2 := oc.cut (some r2) none
    have o3 := (o1.app oo).app o2
    have l1 := o1.2
    have l2 := o2.2
    have l3 := oo.2
    have l4 := (o1.app oo).2
    refine ⟨_, _, rfl, rfl, size_small (by omega), _, rfl, _, rfl, _, rfl, z, rfl, size_small (by omega), _, _, rfl, rfl, size_small (by omega), ?_⟩
    exact q _ _ ((k1.trans k2).trans k3) (h3.mono (by omega)) o3.str
theorem flatD_tup1 {n : Nat} {ds : List PyData} (a : flatDs n ds) : flatD (n + 1) (.tuple ds) := flatD_tup a
theorem flatDs_one {n : Nat} {d : PyData} (a : flatD n d) : flatDs n [d] := flatDs_cons a (flatDs_nil n)
def sp_ask_by : Sp := fun vs H Q _ => ∃ (s : Addr) (n : Nat), vs = [.ref s] ∧ StreamAt H s n ∧ n ≤ 700 ∧ ∀ H' v d, Kp [s] H H' → StreamAt H' s (n + 14) → Tp H' v d → flatD 1 d → Q v H'
theorem ok_ask_by (T : Txt K mg) (F : Fun K "_law_ask_by" "_law_ask_by" s_l_ask_by f fd) : FnOk P w K mg base CX0 4 f fd ["_law_stream_here"] sp_ask_by := by
  obtain ⟨f1, d1, D1⟩ := T.d_l_take
  obtain ⟨f2, d2, D2⟩ := T.d_l_key_by
  obtain ⟨f3, d3, D3⟩ := T.d_l_value_by
  refine F.ok sc_l_ask_by (fun vs H Q E h => ?_) (fun cdv A outer s H vs Q E hr h => ?_)
  · obtain ⟨x, c, rfl, _⟩ := h
    rfl
  · obtain ⟨t, n, rfl, ht, hn, q⟩ := h
    refine ⟨_, pss_cons (ps_set (i := 1) sc_l_ask_by.nd rfl (.inl rfl) (cl D1 (ok_take T D1.fn) (hr.mono (by decide)) (pa_cons (pv 0) (pa_cons pe_int pa_nil))))
      (pss_cons (ps_if (pt_cmpR op_eq (pv 1) pe_int (nomark _)) (pss_one (ps_ret (pe_tup (pa_cons pe_str pa_nil)))) pss_nil)
      (pss_cons (ps_set (i := 2) sc_l_ask_by.nd rfl (.inl rfl) (cl D2 (ok_key_by T D2.fn) hr (pa_cons (pv 0) pa_nil)))
      (pss_cons (ps_if (pt_cmpR op_lt (pv 1) pe_int (nomark _)) (pss_one (ps_ret (pe_tup (pa_cons (pe_ix ix_list (pe_lst (pa_cons pe_str (pa_cons pe_str pa_nil))) (pv 1) (fun _ _ => rfl)) (pa_cons (pv 2) pa_nil))))) pss_nil)
      (pss_cons (ps_if (pt_cmpR op_lt (pv 1) pe_int (nomark _)) (pss_one (ps_ret (pe_tup (pa_cons (pe_ix ix_list (pe_lst (pa_cons pe_str (pa_cons pe_str pa_nil))) (pe_op op_sub (pv 1) pe_int) (fun _ _ => rfl)) (pa_cons (pv 2) (pa_cons (cl D3 (ok_value_by T D3.fn) hr (pa_cons (pv 0) pa_nil)) pa_nil)))))) pss_nil)
      (pss_cons (ps_set (i := 3) sc_l_ask_by.nd rfl (.inl rfl) (cl D3 (ok_value_by T D3.fn) hr (pa_cons (pv 0) pa_nil)))
      (pss_one (ps_ret (pe_tup (pa_cons pe_str (pa_cons (pv 2) (pa_cons (pe_ix ix_list (pe_lst (pa_cons (pv 3) (pa_cons pe_non pa_nil))) (cl D1 (ok_take T D1.fn) (hr.mono (by decide)) (pa_cons (pv 0) (pa_cons pe_int pa_nil))) (fun _ _ => rfl))
        (pa_cons (cl D3 (ok_value_by T D3.fn) hr (pa_cons (pv 0) pa_nil)) pa_nil)))))))))))), ?_⟩
    refine ⟨_, rfl, t, n, 6, rfl, ht, by omega, by decide, by decide, fun r H1 r0 r1 k1 h1 => ?_⟩
    refine ⟨_, rfl, rfl, _, rfl, ite2 (fun _ => ?_) (fun _ => ?_)⟩
    · refine ⟨by show 1 ≤ sizeLine; decide, fun p np => ?_⟩
      exact q _ (.ref p) (.tuple [.str "many"]) (k1.trans (.new np)) ((h1.same (new_ np)).mono (by omega)) (.tup upd_same (.cons (.str _) .nil)) (flatD_tup (flatDs_one (flatD_str _ (by decide +kernel))))
    refine ⟨_, rfl, t, _, rfl, h1, by omega, fun H2 z k2 h2 sz => ?_⟩
    refine ⟨_, rfl, _, _, rfl, rfl, _, rfl, ite2 (fun c => ?_) (fun c => ?_)⟩
    · have c' := of_decide_eq_true c
      refine ⟨by show 2 ≤ sizeLine; decide, fun l nl => ⟨_, rfl, pickI upd_same r0 c' fun v hv => ⟨_, rfl, by show 2 ≤ sizeLine; decide, fun p np => ?_⟩⟩⟩
      have s3 := (new_ (o := .lst [.str "drop", .str "read"]) nl).trans (new_ (o := .tup [v, .str z]) np)
      simp only [List.mem_cons, List.not_mem_nil, or_false] at hv
      have : ∃ y : Str, v = .str y ∧ PyData.strOk y = true := by
        rcases hv with rfl | rfl
        · exact ⟨_, rfl, by decide +kernel⟩
        · exact ⟨_, rfl, by decide +kernel⟩
      obtain ⟨y, rfl, sy⟩ := this
      exact q _ (.ref p) (.tuple [.str y, .str z]) ((k1.trans k2).trans (.of s3)) ((h2.same s3).mono (by omega)) (.tup upd_same (.cons (.str _) (.cons (.str _) .nil))) (flatD_tup (flatDs_cons (flatD_str _ sy) (flatDs_one (flatD_str _ sz))))
    have c2 : ¬ r < 2 := fun h => c (decide_eq_true h)
    refine ⟨_, rfl, _, _, rfl, rfl, _, rfl, ite2 (fun c => ?_) (fun c => ?_)⟩
    · have c' := of_decide_eq_true c
      refine ⟨by show 2 ≤ sizeLine; decide, fun l nl => ⟨_, rfl, _, _, rfl, rfl, pickI upd_same (by omega) (by show r - 2 < 2; omega) fun v hv => ⟨_, rfl, _, rfl, t, _, rfl, h2.same (new_ nl), by omega, fun H3 i k3 h3 => ⟨by show 3 ≤ sizeLine; decide, fun p np => ?_⟩⟩⟩⟩
      simp only [List.mem_cons, List.not_mem_nil, or_false] at hv
      have : ∃ y : Str, v = .str y ∧ PyData.strOk y = true := by
        rcases hv with rfl | rfl
        · exact ⟨_, rfl, by decide +kernel⟩
        · exact ⟨_, rfl, by decide +kernel⟩
      obtain ⟨y, rfl, sy⟩ := this
      exact q _ (.ref p) (.tuple [.str y, .str z, .int i]) ((((k1.trans k2).trans (.new nl)).trans k3).trans (.new np)) ((h3.same (new_ np)).mono (by omega)) (.tup upd_same (.cons (.str _) (.cons (.str _) (.cons (.int _) .nil))))
        (flatD_tup (flatDs_cons (flatD_str _ sy) (flatDs_cons (flatD_str _ sz) (flatDs_one (flatD_int _ _)))))
    refine ⟨_, rfl, t, _, rfl, h2, by omega, fun H3 o k3 h3 => ?_⟩
    refine ⟨_, rfl, _, rfl, by show 2 ≤ sizeLine; decide, fun l nl => ?_⟩
    have nlt : l ≠ t := fun z => by
      obtain ⟨_, _, _, _, e, _⟩ := h3
      rw [z, e] at nl
      cases nl
    refine ⟨_, rfl, t, _, 2, rfl, h3.same (new_ nl), by omega, by decide, by decide, fun r4 H4 a0 a1 k4 h4 => ?_⟩
    have hl := k4.lst _ _ (by simpa using nlt) upd_same
    refine pickI hl a0 a1 fun v hv => ?_
    refine ⟨_, rfl, t, _, rfl, h4, by omega, fun H5 i k5 h5 => ⟨by show 4 ≤ sizeLine; decide, fun p np => ?_⟩⟩
    simp only [List.mem_cons, List.not_mem_nil, or_false] at hv
    have kk := (((((k1.trans k2).trans k3).trans (.new nl)).trans k4).trans k5).trans (.new (o := .tup [.str "swap", .str z, v, .int i]) np)
    have hh := (h5.same (new_ (o := .tup [.str "swap", .str z, v, .int i]) np)).mono (m := n + 14) (by omega)
    rcases hv with rfl | rfl
    · exact q _ (.ref p) (.tuple [.str "swap", .str z, .int o, .int i]) kk hh (.tup upd_same (.cons (.str _) (.cons (.str _) (.cons (.int _) (.cons (.int _) .nil)))))
        (flatD_tup (flatDs_cons (flatD_str _ (by decide +kernel)) (flatDs_cons (flatD_str _ sz) (flatDs_cons (flatD_int _ _) (flatDs_one (flatD_int _ _))))))
    · exact q _ (.ref p) (.tuple [.str "swap", .str z, .none, .int i]) kk hh (.tup upd_same (.cons (.str _) (.cons (.str _) (.cons .non (.cons (.int _) .nil)))))
        (flatD_tup (flatDs_cons (flatD_str _ (by decide +kernel)) (flatDs_cons (flatD_str _ sz) (flatDs_cons (flatD_non _) (flatDs_one (flatD_int _ _))))))
def sp_deed_by : Sp := fun vs H Q _ => ∃ (s : Addr) (n : Nat), vs = [.ref s] ∧ StreamAt H s n ∧ n ≤ 600 ∧ ∀ H' b d, Kp [s] H H' → StreamAt H' s (n + 17) → DeedAt H' b d → okD d → Q (.ref b) H'
theorem ok_deed_by (T : Txt K mg) (F : Fun K "_law_deed_by" "_law_deed_by" s_l_deed_by f fd) : FnOk P w K mg base CX0 5 f fd ["_law_stream_here"] sp_deed_by := by
  obtain ⟨f1, d1, D1⟩ := T.d_l_take
  obtain ⟨f2, d2, D2⟩ := T.d_l_members_by
  obtain ⟨f3, d3, D3⟩ := T.d_l_ask_by
  refine F.ok sc_l_deed_by (fun vs H Q E h => ?_) (fun cdv A outer s H vs Q E hr h => ?_)
  · obtain ⟨x, c, rfl, _⟩ := h
    rfl
  · obtain ⟨t, n, rfl, ht, hn, q⟩ := h
    refine ⟨_, pss_cons (ps_set (i := 1) sc_l_deed_by.nd rfl (.inl rfl) (cl D1 (ok_take T D1.fn) (hr.mono (by decide)) (pa_cons (pv 0) (pa_cons pe_int pa_nil))))
      (pss_cons (ps_if (pt_cmpR op_eq (pv 1) pe_int (nomark _)) (pss_one (ps_ret (pe_tup (pa_cons pe_str pa_nil)))) pss_nil)
      (pss_cons (ps_if (pt_cmpR op_eq (pv 1) pe_int (nomark _)) (pss_one (ps_ret (pe_tup (pa_cons pe_str (pa_cons (cl D2 (ok_members_by T D2.fn) (hr.mono (by decide)) (pa_cons (pv 0) pa_nil)) pa_nil))))) pss_nil)
      (pss_one (ps_ret (pe_tup (pa_cons pe_str (pa_cons (cl D1 (ok_take T D1.fn) (hr.mono (by decide)) (pa_cons (pv 0) (pa_cons pe_int pa_nil))) (pa_cons (pe_op op_add pe_int (cl D1 (ok_take T D1.fn) (hr.mono (by decide)) (pa_cons (pv 0) (pa_cons pe_int pa_nil))))
        (pa_cons (cl D3 (ok_ask_by T D3.fn) hr (pa_cons (pv 0) pa_nil)) pa_nil))))))))), ?_⟩
    refine ⟨_, rfl, t, n, 4, rfl, ht, by omega, by decide, by decide, fun r H1 r0 r1 k1 h1 => ?_⟩
    refine ⟨_, rfl, rfl, _, rfl, ite2 (fun _ => ?_) (fun _ => ?_)⟩
    · refine ⟨by show 1 ≤ sizeLine; decide, fun p np => ?_⟩
      exact q _ p .blank (k1.trans (.new np)) ((h1.same (new_ np)).mono (by omega)) upd_same trivial
    refine ⟨_, rfl, rfl, _, rfl, ite2 (fun _ => ?_) (fun _ => ?_)⟩
    · refine ⟨_, rfl, t, _, rfl, h1, by omega, fun H2 m ns k2 h2 hm G => ⟨by show 2 ≤ sizeLine; decide, fun p np => ?_⟩⟩
      exact q _ p (.mem ns) ((k1.trans k2).trans (.new np)) ((h2.same (new_ np)).mono (by omega)) ⟨m, upd_same, new_ np _ _ hm⟩ G
    refine ⟨_, rfl, t, _, 10, rfl, h1, by omega, by decide, by decide, fun r2 H2 _ _ k2 h2 => ?_⟩
    refine ⟨_, rfl, t, _, 1000000, rfl, h2, by omega, by decide, by decide, fun r3 H3 _ _ k3 h3 => ⟨_, _, rfl, rfl, ?_⟩⟩
    refine ⟨_, rfl, t, _, rfl, h3, by omega, fun H4 v d k4 h4 hv fl => ⟨by show 4 ≤ sizeLine; decide, fun p np => ?_⟩⟩
    have s5 := new_ (o := .tup [.str "call", .int r2, .int (1 + r3), v]) np
    exact q _ p (.call [.int r2, .int (1 + r3), d]) ((((k1.trans k2).trans k3).trans k4).trans (.of s5)) ((h4.same s5).mono (by omega)) ⟨_, upd_same, .cons (.int _) (.cons (.int _) (.cons (hv.kp (l := []) (.of s5)) .nil))⟩
      (flatDs_cons (flatD_int _ _) (flatDs_cons (flatD_int _ _) (flatDs_one (flatD_mono (by decide) fl))))
end
end K7
namespace K7
open PySem PySem.Spec PyProof.Rows L2
theorem oV_inj {a b : Option Nat} (h : oV a = oV b) : a = b := by
  cases a <;> cases b <;> simp [oV] at h ⊢
  omega
theorem oV_scal (a b : Option Nat) : scal (oV a) (oV b) = true := by
  cases a <;> cases b <;> rfl
theorem ints_dp {K : PySem.W.Frag} {H : Hp} {m : Addr} {ns : List Int} (h : H m = some (.tup (ns.map V.int))) : Dp K H (.ref m) (.tuple (ns.map .int)) := (Tp.tup h (ints_tps ns)).dp
theorem ints_flat (ns : List Int) : flatD 1 (.tuple (ns.map .int)) := flatD_tup (flatDs_map ns fun x _ => flatD_int _ x)
theorem Lg.reignAt_some {L : Lo} {p : Nat} (h1 : L.P ≤ p) (h2 : p ≤ L.last) : ∃ r, L.reignAt p = some r := ⟨_, reign_some h1 h2⟩
section
variable {P : Program} {w : World} {K : PySem.W.Frag} {mg : Str → Option Value} {base : Heap} {f : Addr} {fd : FuncData}
def sp_match : Sp := fun vs H Q _ => ∃ (x y : V) (A B : Lo), vs = [x, y] ∧ LogAt H x A ∧ LogAt H y B ∧ Agree A B ∧ (∀ r ∈ A.rows, okD r.2) ∧ A.last ≤ 1000 ∧ B.last ≤ 1000 ∧ ∀ H', Same H H' → Q (.bl true) H'
theorem ok_match (T : Txt K mg) (F : Fun K "_law_match" "_law_match" s_l_match f fd) : FnOk P w K mg base CX0 5 f fd ["_law_one", "_law_other"] sp_match := by
  obtain ⟨f1, d1, D1⟩ := T.d_last
  obtain ⟨f2, d2, D2⟩ := T.d_reign_at
  obtain ⟨f3, d3, D3⟩ := T.d_members_at
  obtain ⟨f4, d4, D4⟩ := T.d_row_at
  refine F.ok sc_l_match (fun vs H Q E h => ?_) (fun cdv A outer s H vs Q E hr h => ?_)
  · obtain ⟨x, y, A, B, rfl, _⟩ := h
    rfl
  · obtain ⟨x, y, LA, LB, rfl, hA, hB, ag, oA, zA, zB, q⟩ := h
    refine ⟨_, pss_cons (ps_set (i := 2) sc_l_match.nd rfl (.inl rfl) (pe_callB (call_max2 rfl) (by rfl) T.n_max (by decide +kernel) (pa_cons (pe_P (pv 0)) (pa_cons (pe_P (pv 1)) pa_nil))))
      (pss_cons (ps_set (i := 3) sc_l_match.nd rfl (.inl rfl) pe_bl)
      (pss_cons (ps_for PassesOwn.never rfl (pi_range3 (by rfl) T.n_range (pa_cons (pe_callB (call_min2 rfl) (by rfl) T.n_min (by decide +kernel) (pa_cons (cl D1 (ok_last T D1.fn) (hr.mono (by decide)) (pa_cons (pv 0) pa_nil)) (pa_cons (cl D1 (ok_last T D1.fn) (hr.mono (by decide)) (pa_cons (pv 1) pa_nil)) pa_nil)))
          (pa_cons (pe_op op_sub (pv 2) pe_int) (pa_cons (pe_un un_neg pe_int) pa_nil)))) (pg_name (i := 4) sc_l_match.nd rfl (.inl rfl))
        (pss_cons (ps_set (i := 5) sc_l_match.nd rfl (.inl rfl) (cl D2 (ok_reign_at T D2.fn) hr (pa_cons (pv 0) (pa_cons (pv 4) pa_nil))))
        (C8.pss_cut (ps_if (PW.pt (pw_and (pt_not (pt_val (pv 3))) (pw_and1 (pt_cmpR op_eq (pv 5) (cl D2 (ok_reign_at T D2.fn) hr (pa_cons (pv 1) (pa_cons (pv 4) pa_nil))) (nomark _)))))
          (pss_cons (ps_set (i := 3) sc_l_match.nd rfl (.inl rfl) pe_bl)
          (pss_one (ps_if (pt_cmpR (op_neD hr.units) (cl D3 (ok_members_at T D3.fn) (hr.mono (by decide)) (pa_cons (pv 0) (pa_cons (pv 4) pa_nil))) (cl D3 (ok_members_at T D3.fn) (hr.mono (by decide)) (pa_cons (pv 1) (pa_cons (pv 4) pa_nil))) (nomark _)) (pss_one (ps_ret pe_bl)) pss_nil))) pss_nil)
        (C8.pss_cut (ps_if (PW.pt (pw_and (pt_val (pv 3)) (pw_and1 (pt_cmpR op_ne (pv 5) (cl D2 (ok_reign_at T D2.fn) hr (pa_cons (pv 1) (pa_cons (pv 4) pa_nil))) (nomark _))))) (pss_one (ps_ret pe_bl)) pss_nil)
        (pss_one (ps_if (PW.pt (pw_and (pt_val (pv 3)) (pw_and (pt_cmpR op_gt (pv 4) (pv 2) (nomark _)) (pw_and1 (pt_cmpR (op_neD hr.units) (cl D4 (ok_row_at T D4.fn) hr (pa_cons (pv 0) (pa_cons (pv 4) pa_nil))) (cl D4 (ok_row_at T D4.fn) hr (pa_cons (pv 1) (pa_cons (pv 4) pa_nil))) (nomark _))))))
          (pss_one (ps_ret pe_bl)) pss_nil))))))
      (pss_one (ps_ret pe_bl)))), ?_⟩
    have lA : LA.P ≤ LA.last := Nat.le_add_right _ _
    have lB : LB.P ≤ LB.last := Nat.le_add_right _ _
    generalize eb : max LA.P LB.P = beg
    generalize et : min LA.last LB.last = top
    refine ⟨_, rfl, LA, hA, _, rfl, LB, hB, _, _, rfl, ?_⟩
    rw [show (if ((LB.P : Nat) : Int) > ((LA.P : Nat) : Int) then ((LB.P : Nat) : Int) else ((LA.P : Nat) : Int)) = ((beg : Nat) : Int) by split <;> omega]
    refine ⟨_, rfl, x, LA, rfl, hA, _, rfl, y, LB, rfl, hB, _, _, rfl, ?_⟩
    rw [show (if ((LB.last : Nat) : Int) < ((LA.last : Nat) : Int) then ((LB.last : Nat) : Int) else ((LA.last : Nat) : Int)) = ((top : Nat) : Int) by split <;> omega]
    refine ⟨_, rfl, _, _, rfl, rfl, 1, rfl, _, _, _, _, rfl, RgC.neg (by omega) (by omega) (by omega) (by omega), ?_⟩
    refine for_rangeC (fun i σ H1 => ∃ (al : Bool) (y4 y5 : Option V), σ = [some x, some y, some (.int (beg : Nat)), some (.bl al), y4, y5] ∧ Same H H1 ∧ (al = true → ∃ p, top + 1 ≤ p + i ∧ p ≤ top ∧ beg ≤ p ∧ LA.reignAt p = LB.reignAt p))
      ⟨false, none, none, rfl, Same.refl H, fun z => by cases z⟩ (fun i σ H1 hi p => ?_) (fun σ H1 p => ?_)
    · obtain ⟨al, y4, y5, rfl, s1, hal⟩ := p
      have hi2 : i + beg ≤ top := by omega
      generalize ep : top - i = p
      rw [show ((top : Nat) : Int) + ((i : Nat) : Int) * -1 = ((p : Nat) : Int) by omega]
      have pA : LA.P ≤ p := by omega
      have pB : LB.P ≤ p := by omega
      have tA : p ≤ LA.last := by omega
      have tB : p ≤ LB.last := by omega
      refine ⟨_, rfl, _, rfl, x, LA, p, rfl, hA.same s1, ?_⟩
      refine ⟨fun σ2 H2 => ∃ al2 : Bool, σ2 = [some x, some y, some (.int (beg : Nat)), some (.bl al2), some (.int (p : Nat)), some (oV (LA.reignAt p))] ∧ Same H H2 ∧ (al2 = true → ∃ p', p ≤ p' ∧ p' ≤ top ∧ LA.reignAt p' = LB.reignAt p'), ?_, fun σ2 H2 hm => ?_⟩
      · refine ⟨_, rfl, al, rfl, ?_⟩
        cases al with
        | true =>
          refine iteF ?_
          obtain ⟨p', h1, h2, h3, h4⟩ := hal rfl
          exact ⟨true, rfl, s1, fun _ => ⟨p', by omega, h2, h4⟩⟩
        | false =>
          refine iteT ?_
          refine ⟨_, rfl, _, rfl, _, rfl, y, LB, p, rfl, hB.same s1, oV_scal _ _, _, rfl, ite2 (fun c => ?_) (fun c => ?_)⟩
          · have er : LA.reignAt p = LB.reignAt p := oV_inj (of_decide_eq_true c)
            refine ⟨_, rfl, _, rfl, x, LA, p, rfl, hA.same s1, pA, tA, fun H2 m1 s2 h1 => ?_⟩
            refine ⟨_, rfl, _, rfl, y, LB, p, rfl, hB.same (s1.trans s2), pB, tB, fun H3 m2 s3 h2 => ?_⟩
            rw [← ag.mem p pA pB tA tB er] at h2
            refine ⟨_, _, ints_dp (s3 _ _ h1), ints_dp h2, flatD_shaped (ints_flat _), flatD_shaped (ints_flat _), false, congrArg V.bl ?_, iteF ?_⟩
            · rw [SeqAt.eqv_refl _ (ints_flat _).1]
              rfl
            · exact ⟨true, rfl, (s1.trans s2).trans s3, fun _ => ⟨p, Nat.le_refl _, by omega, er⟩⟩
          · exact ⟨false, rfl, s1, fun z => by cases z⟩
      · obtain ⟨al2, rfl, s2, hal2⟩ := hm
        refine ⟨fun σ3 H3 => σ3 = [some x, some y, some (.int (beg : Nat)), some (.bl al2), some (.int (p : Nat)), some (oV (LA.reignAt p))] ∧ Same H H3, ?_, fun σ3 H3 hm => ?_⟩
        · refine ⟨_, rfl, al2, rfl, ?_⟩
          cases al2 with
          | false => exact iteF ⟨rfl, s2⟩
          | true =>
            obtain ⟨p', h1, h2, h4⟩ := hal2 rfl
            have er : LA.reignAt p = LB.reignAt p := ag.reign p' p pA pB h1 (by omega) (by omega) h4
            refine iteT ?_
            refine ⟨_, rfl, _, rfl, _, rfl, y, LB, p, rfl, hB.same s2, oV_scal _ _, false, ?_, iteF ⟨rfl, s2⟩⟩
            rw [er]
            simp
        · obtain ⟨rfl, s3⟩ := hm
          refine ⟨_, rfl, al2, rfl, ?_⟩
          have fin : ∀ H4, Same H H4 → ∃ (al : Bool) (y4 y5 : Option V), [some x, some y, some (.int (beg : Nat)), some (.bl al2), some (.int (p : Nat)), some (oV (LA.reignAt p))] = [some x, some y, some (.int (beg : Nat)), some (.bl al), y4, y5] ∧ Same H H4 ∧
              (al = true → ∃ p, top + 1 ≤ p + (i + 1) ∧ p ≤ top ∧ beg ≤ p ∧ LA.reignAt p = LB.reignAt p) := fun H4 s4 => ⟨al2, _, _, rfl, s4, fun z => by
            obtain ⟨p', h1, h2, h4⟩ := hal2 z
            exact ⟨p', by omega, h2, by omega, h4⟩⟩
          cases al2 with
          | false => exact iteF (fin H3 s3)
          | true =>
            obtain ⟨p', h1, h2, h4⟩ := hal2 rfl
            refine iteT ?_
            refine ⟨_, rfl, _, rfl, _, _, rfl, rfl, _, rfl, ite2 (fun c => ?_) (fun c => ?_)⟩
            · have c' : beg < p := by
                have := of_decide_eq_true c
                omega
              have hrA : LA.hasRow p = true := decide_eq_true (by omega)
              have hrB : LB.hasRow p = true := decide_eq_true (by omega)
              refine ⟨_, rfl, _, rfl, x, LA, p, rfl, hA.same s3, hrA, fun v r e1 h1r => ?_⟩
              refine ⟨_, rfl, _, rfl, y, LB, p, rfl, hB.same s3, hrB, fun v2 r2 e2 h2r => ?_⟩
              have ee := ag.row p' p (by omega) (by omega) h1 (by omega) (by omega) h4
              rw [e1, e2] at ee
              cases Option.some.inj ee
              have okr : okD r.2 := by
                unfold Lg.rowAt at e1
                rw [if_pos (by omega)] at e1
                exact oA r (List.mem_of_getElem? e1)
              refine ⟨_, _, h1r.tp.dp, h2r.tp.dp, flatD_shaped (rowD_flat okr), flatD_shaped (rowD_flat okr), false, congrArg V.bl ?_, iteF (fin H3 s3)⟩
              rw [rowD_refl okr]
              rfl
            · exact fin H3 s3
    · obtain ⟨al, y4, y5, rfl, s1, _⟩ := p
      exact q H1 s1
end
end K7
namespace K7
open PySem PySem.Spec PyProof.Rows L2
/-! ### xs + ys of lists that are read -/
section
variable {X : Cx}
def rCatL (K : PySem.W.Frag) : R2 := fun x y H Q => ∃ l b xs zs, x = .ref l ∧ y = .ref b ∧ SqL K H l xs ∧ SqL K H b zs ∧ xs.length + zs.length ≤ sizeLine ∧ ∀ p, H p = none → Q (.ref p) (upd H p (.lst (xs ++ zs)))
theorem op_catL : OpR X (binaryOp .Add) (rCatL X.K) := by
  rintro pins sh σ H _ _ va vb Q I ra rb ⟨a, b, xs, zs, rfl, rfl, hx, hz, small, q⟩
  obtain rfl : va = .ref a := ra
  obtain rfl : vb = .ref b := rb
  obtain ⟨us, relx, px, _⟩ := I.list hx
  obtain ⟨ws, relz, pz, _⟩ := I.list hz
  obtain ⟨⟨c1, dict1, data1, slots1⟩, get1, rfl, n1, rfl⟩ := px.isList
  obtain ⟨⟨c2, dict2, data2, slots2⟩, get2, rfl, n2, rfl⟩ := pz.isList
  have size : us.toArray.size + ws.toArray.size ≤ sizeLine := by
    rw [List.size_toArray, List.size_toArray, ← relx.length, ← relz.length]
    exact small
  refine concat_meets ⟨_, get1, rfl⟩ ⟨_, get2, rfl⟩ noFill_list_add seq_list_add PySem.F.slot_list_add PySem.F.entry_list_add
    (PySem.F.args_list_add_2 _ _) (list_addW a b us.toArray ws.toArray n1 n2 dict1 dict2 slots1 slots2 size) ⟨get1, get2, ?_⟩
  rw [List.append_toArray]
  have whole : (xs ++ zs).length ≤ sizeLine := by
    rw [List.length_append]
    exact small
  exact ⟨.ref sh.heap.objs.size, _, I.lnew (t' := sh.toks) (relx.append relz) whole, rfl, q _ I.fresh⟩
/-! rules whose readings name no written part: for a comprehension's block -/
def rIxM : R2 := fun x y H Q => ∃ p xs i v, x = .ref p ∧ y = .int i ∧ H p = some (.lst xs) ∧ atI xs i = some v ∧ Q v H
theorem ix_lm : IxR X rIxM := by
  intro value slice pins s σ H x y v u Q I rx ry h hs
  obtain ⟨p, xs, i, z, e1, e2, hq, he, q⟩ := h
  exact ix_list value slice pins s σ H x y v u Q I rx ry ⟨p, xs, i, z, e1, e2, SqL.of hq, he, q⟩ hs
def rLenM : List V → Hp → VK → Prop := fun xs H Q => ∃ p ys, xs = [.ref p] ∧ H p = some (.lst ys) ∧ Q (.int ys.length) H
theorem call_lenM : CallR X (.builtin "len") rLenM := by
  intro pins s σ H xs us Q I r h
  obtain ⟨p, ys, e, hq, q⟩ := h
  exact call_len_seq pins s σ H xs us Q I r ⟨p, ys, e, .inl (SqL.of hq), q⟩
def rNeF : R2 := fun x y H Q => ∃ d e, (∀ K, Dp K H x d) ∧ (∀ K, Dp K H y e) ∧ SeqAt.shaped d = true ∧ SeqAt.shaped e = true ∧ Q (.bl (!PyData.eqv d e)) H
theorem op_neF (hu : X.A.units + 64 < cLine) : OpR X (compareOp .NotEq) rNeF := by
  intro pins s σ H x y v u Q I rx ry h
  obtain ⟨d, e, h1, h2, h3⟩ := h
  exact op_neD hu pins s σ H x y v u Q I rx ry ⟨d, e, h1 _, h2 _, h3⟩
end
/-! ### heads -/
/-- the heads' list at a, each head's own list -/
structure HeadsAt (H : Hp) (a : Addr) (as : List Addr) (hs : List (List Rw)) : Prop where
  lst : H a = some (.lst (as.map V.ref))
  each : Paired (HeadAt H) as hs
theorem heads_same {H H' : Hp} {as : List Addr} {hs : List (List Rw)} (s : Same H H') (h : Paired (HeadAt H) as hs) : Paired (HeadAt H') as hs := Paired.mapP h fun _ _ x => x.kp (l := []) (.of s) (by simp)
theorem HeadsAt.same {H H' : Hp} {a : Addr} {as : List Addr} {hs : List (List Rw)} (s : Same H H') (h : HeadsAt H a as hs) : HeadsAt H' a as hs := ⟨s _ _ h.lst, heads_same s h.each⟩
theorem heads_dpAll {K : PySem.W.Frag} {H : Hp} : ∀ {as : List Addr} {hs : List (List Rw)}, Paired (HeadAt H) as hs → DpAll K H (as.map V.ref) (hs.map headD)
  | _, _, .nil => .nil
  | _, _, .cons x t => .cons x.dp (heads_dpAll t)
theorem HeadsAt.dp {K : PySem.W.Frag} {H : Hp} {a : Addr} {as : List Addr} {hs : List (List Rw)} (h : HeadsAt H a as hs) : Dp K H (.ref a) (.list (hs.map headD)) := .lst (SqL.of h.lst) (heads_dpAll h.each)
theorem heads_flat {hs : List (List Rw)} (q : ∀ h ∈ hs, ∀ r ∈ h, okD r.2) : flatD 7 (.list (hs.map headD)) := flatD_lst (flatDs_map hs fun h m => headD_flat (q h m))
theorem eqv_nil (ds : List PyData) : PyData.eqv (.list ds) (.list []) = ds.isEmpty := by
  cases ds <;> simp [PyData.eqv, PyData.eqvAll]
section
variable {P : Program} {w : World} {K : PySem.W.Frag} {mg : Str → Option Value} {base : Heap} {f : Addr} {fd : FuncData}
def sp_common : Sp := fun vs H Q _ => ∃ (a : Addr) (as : List Addr) (hs : List (List Rw)) (least : Nat), vs = [.ref a, .int (least : Nat)] ∧ HeadsAt H a as hs ∧ hs ≠ [] ∧ hs.length ≤ 500 ∧ (∀ h ∈ hs, least ≤ h.length) ∧ (∀ h ∈ hs, ∀ r ∈ h, okD r.2) ∧ least ≤ 1000 ∧
  ∀ H' (far : Nat), Same H H' → far ≤ least → (∀ h ∈ hs, ∀ h' ∈ hs, ∀ (i : Nat) (r s : Rw), i < far → h[i]? = some r → h'[i]? = some s → r.1 = s.1) → Q (.int (far : Nat)) H'
theorem ok_common (T : Txt K mg) (F : Fun K "_law_common" "_law_common" s_l_common f fd) : FnOk P w K mg base CX0 1 f fd ["_law_heads", "_law_least"] sp_common := by
  refine F.ok sc_l_common (fun vs H Q E h => ?_) (fun cdv A outer s H vs Q E hr h => ?_)
  · obtain ⟨x, y, A, B, rfl, _⟩ := h
    rfl
  · obtain ⟨a, as, hs, least, rfl, hH, hne, hz, hle, hok, zl, q⟩ := h
    refine ⟨_, pss_cons (ps_for PassesOwn.never rfl (pi_range1 (by rfl) T.n_range (pa_cons (pv 1) pa_nil)) (pg_name (i := 2) sc_l_common.nd rfl (.inr rfl))
        (pss_one (ps_if (pt_val (pe_callB (cr_any rfl) (by rfl) T.n_any (by decide +kernel) (pa_cons
          (pe_lc (own := [("_law_rows", 3)]) (g := gName 3) (tt := tYes) rfl sc_l_common.nd (pi_list (pv 0)) (blkOk_by (N := N_l_common) (sc := defScope s_l_common) (by decide +kernel)) (fun _ _ _ _ _ => pg_name (i := 3) sc_l_common.nd rfl (Or.inl rfl)) (fun _ _ _ _ _ => pts_nil)
            (fun _ _ _ _ _ => pe_or (pe_cmpR op_le (pe_callB call_lenM (by rfl) T.n_len PySem.boot_len (pa_cons (pv 3) pa_nil)) (pv 2) (nomark _))
              (pe_one (pe_cmpR (op_neF hr.units) (pe_ix ix_lm (pv 3) (pv 2) (fun _ _ => rfl)) (pe_ix ix_lm (pe_lxn 0 (pv 0)) (pv 2) (fun _ _ => rfl)) (nomark _))))) pa_nil)))
          (pss_one (ps_ret (pv 2))) pss_nil)))
      (pss_one (ps_ret (pv 1))), ?_⟩
    refine ⟨_, rfl, (least : Nat), rfl, by omega, by omega, ?_⟩
    refine for_range (lo := 0) (n := (least : Int).toNat) (fun i σ H1 => ∃ y, σ = [some (.ref a), some (.int (least : Nat)), y, none] ∧ Same H H1 ∧ (∀ h ∈ hs, ∀ h' ∈ hs, ∀ (j : Nat) (r s : Rw), j < i → h[j]? = some r → h'[j]? = some s → r.1 = s.1))
      ⟨none, rfl, Same.refl H, fun _ _ _ _ _ _ _ h => absurd h (Nat.not_lt_zero _)⟩ (fun i σ H1 hi p => ?_) (fun σ H1 p => ?_)
    · obtain ⟨y, rfl, s1, ih⟩ := p
      have hi' : i < least := by omega
      have hH1 := hH.same s1
      rw [show (0 : Int) + ((i : Nat) : Int) = ((i : Nat) : Int) by omega]
      have hlen := Paired.length hH.each
      obtain ⟨h0, e0⟩ : ∃ h0, hs[0]? = some h0 := by
        cases hs with
        | nil => exact absurd rfl hne
        | cons x r => exact ⟨x, rfl⟩
      refine ⟨_, rfl, a, rfl, ⟨_, SqL.of hH1.lst⟩, fun D nD => lc_yes (walk_list (xs := as.map V.ref)) (fun m H2 => Same H1 H2 ∧ ∃ bs : List Bool, bs.length = m ∧ H2 D = some (.lst (bs.map V.bl)) ∧
          (bs.any id = false → ∀ (m' : Nat) (h : List Rw) (r s : Rw), m' < m → hs[m']? = some h → h[i]? = some r → h0[i]? = some s → r.1 = s.1))
        ⟨new_ nD, [], rfl, upd_same, fun _ _ _ _ _ h => absurd h (Nat.not_lt_zero _)⟩ (fun m H2 _ p => SqL.of (p.1 _ _ hH1.lst)) (fun m x H2 H2' hm p y => ?_) (fun H2 p => ?_)⟩
      · obtain ⟨rfl, hx⟩ := y
        obtain ⟨s2, bs, lb, hD, hb⟩ := p
        rw [List.getElem?_map] at hx
        obtain ⟨b, eb, rfl⟩ := Option.map_eq_some_iff.mp hx
        have hH2 := hH1.same s2
        obtain ⟨h, eh, ⟨ws, hb1, hb2⟩⟩ := pd_left hH2.each eb
        obtain ⟨b0, eb0, ⟨ws0, hb01, hb02⟩⟩ := pd_right hH2.each e0
        have l1 := Paired.length hb2
        have l2 := Paired.length hb02
        have m1 := List.mem_of_getElem? eh
        have m0 := List.mem_of_getElem? e0
        have z1 := hle h m1
        have z0 := hle h0 m0
        have g1 : h[i]? = some (h[i]'(by omega)) := List.getElem?_eq_getElem (by omega)
        have g0 : h0[i]? = some (h0[i]'(by omega)) := List.getElem?_eq_getElem (by omega)
        generalize (h[i]'(by omega)) = r1 at g1
        generalize (h0[i]'(by omega)) = r0 at g0
        obtain ⟨v1, ev1, hv1⟩ := pd_right hb2 g1
        obtain ⟨v0, ev0, hv0⟩ := pd_right hb02 g0
        have ea0 : (as.map V.ref)[0]? = some (.ref b0) := by
          rw [List.getElem?_map, eb0]
          rfl
        refine ⟨rfl, ?_⟩
        refine ⟨_, rfl, b, ws, rfl, hb1, _, rfl, _, _, rfl, rfl, false, congrArg V.bl (decide_eq_false (by omega)), iteF ?_⟩
        refine ⟨_, rfl, _, rfl, b, ws, _, _, rfl, rfl, hb1, atI_nat ev1, _, rfl, a, _, _, rfl, hH2.lst, ea0, _, rfl, b0, ws0, _, _, rfl, rfl, hb01, atI_nat ev0, ?_⟩
        refine ⟨_, _, fun K => hv1.tp.dp, fun K => hv0.tp.dp, flatD_shaped (rowD_flat (hok h m1 _ (List.mem_of_getElem? g1))), flatD_shaped (rowD_flat (hok h0 m0 _ (List.mem_of_getElem? g0))), _, hD, ?_, ?_⟩
        · rw [List.length_map]
          have : as.length = hs.length := hlen
          rw [List.length_map] at hm
          exact size_lt (by omega)
        · refine ⟨same_mut s2 nD, bs ++ [!PyData.eqv (rowD r1) (rowD r0)], by rw [List.length_append, lb]; rfl, by rw [upd_same, List.map_append]; rfl, fun ha m' h' r s hm' eh' er es => ?_⟩
          rw [List.any_append, Bool.or_eq_false_iff] at ha
          by_cases e : m' = m
          · subst e
            rw [eh] at eh'
            cases Option.some.inj eh'
            rw [g1] at er
            rw [g0] at es
            cases Option.some.inj er
            cases Option.some.inj es
            refine rowD_eqv ?_
            have := ha.2
            simpa using this
          · exact hb ha.1 m' h' r s (by omega) eh' er es
      · obtain ⟨s2, bs, lb, hD, hb⟩ := p
        refine ⟨D, bs, rfl, SqL.of hD, _, rfl, ?_⟩
        cases ea : bs.any id with
        | true =>
          refine iteT ?_
          exact ⟨_, rfl, q H2 i (s1.trans s2) (by omega) ih⟩
        | false =>
          refine iteF ⟨_, rfl, s1.trans s2, fun h hh h' hh' j r s hj er es => ?_⟩
          by_cases e : j = i
          · subst e
            have key : ∀ h ∈ hs, ∀ (r s : Rw), h[j]? = some r → h0[j]? = some s → r.1 = s.1 := fun h hh r s er es => by
              obtain ⟨m', lm, em⟩ := List.getElem_of_mem hh
              refine hb ea m' h r s ?_ (by rw [List.getElem?_eq_getElem lm, em]) er es
              rw [List.length_map]
              have : as.length = hs.length := hlen
              omega
            have z0 := hle h0 (List.mem_of_getElem? e0)
            have g0 : h0[j]? = some (h0[j]'(by omega)) := List.getElem?_eq_getElem (by omega)
            rw [key h hh r _ er g0, key h' hh' s _ es g0]
          · exact ih h hh h' hh' j r s (by omega) er es
    · obtain ⟨y, rfl, s1, ih⟩ := p
      exact ⟨_, rfl, q H1 least s1 (Nat.le_refl _) fun h hh h' hh' j r s hj => ih h hh h' hh' j r s (by omega)⟩
end
end K7
namespace K7
open PySem PySem.Spec PyProof.Rows L2
section
variable {P : Program} {w : World} {K : PySem.W.Frag} {mg : Str → Option Value} {base : Heap} {f : Addr} {fd : FuncData}
def sp_all_rows : Sp := fun vs H Q _ => ∃ (x : V) (a : Addr) (as : List Addr) (hs : List (List Rw)) (L : Lo) (X : List Rw) (M0 : List Int), vs = [x, .ref a] ∧ LogAt H x L ∧ HeadsAt H a as hs ∧ Rep M0 L X ∧ (0 < L.P → hs ≠ []) ∧ hs.length ≤ 500 ∧
  (∀ h ∈ hs, L.P ≤ h.length ∧ h.take L.P = X.take L.P ∧ h.length ≤ 500) ∧ (∀ h ∈ hs, ∀ r ∈ h, okD r.2) ∧ X.length ≤ 500 ∧ ∀ H' p, Same H H' → HeadAt H' p X → Q (.ref p) H'
theorem ok_all_rows (T : Txt K mg) (F : Fun K "_law_all_rows" "_law_all_rows" s_l_all_rows f fd) : FnOk P w K mg base CX0 1 f fd ["_law_log", "_law_heads"] sp_all_rows := by
  refine F.ok sc_l_all_rows (fun vs H Q E h => ?_) (fun cdv A outer s H vs Q E hr h => ?_)
  · obtain ⟨x, y, A, B, L, X, M0, rfl, _⟩ := h
    rfl
  · obtain ⟨x, a, as, hs, L, X, M0, rfl, hL, hH, rep, hne, hz, hcom, hok, zX, q⟩ := h
    refine ⟨_, pss_cons (ps_set (i := 2) sc_l_all_rows.nd rfl (.inr rfl) (pe_P (pv 0)))
      (pss_cons (ps_if (pt_cmpR op_eq (pv 2) pe_int (nomark _)) (pss_one (ps_ret (pe_callTy call_list_of (by rfl) T.n_list (by decide +kernel) (pa_cons (pe_rows (pv 0)) pa_nil)))) pss_nil)
      (pss_cons (ps_setLc (i := 3) (own := [("_law_rows", 4)]) (g := gName 4) rfl sc_l_all_rows.nd rfl rfl (sw_true rfl rfl rfl (by decide +kernel)) (pi_list (pv 1)) (blkOk_by (N := N_l_all_rows) (sc := defScope s_l_all_rows) (by decide +kernel)) (fun _ _ _ _ _ => pg_name (i := 4) sc_l_all_rows.nd rfl (Or.inl rfl))
          (fun _ _ _ _ _ => pts_one (PW.pt (pw_and (pt_cmpR op_ge (pe_callB call_lenM (by rfl) T.n_len PySem.boot_len (pa_cons (pv 4) pa_nil)) (pv 2) (nomark _)) (pw_and1 (pt_cmpR op_eq (pe_rg (pe_ix ix_lm (pv 4) (pe_op op_sub (pv 2) pe_int) (fun _ _ => rfl))) (pe_R (pv 0)) (nomark _))))))
          (fun _ _ _ _ _ => pv 4))
      (pss_one (ps_ret (pe_ifExp (pt_cmpR (op_neF hr.units) (pv 3) (pe_lst pa_nil) (nomark _)) (pe_op op_catL (pe_slice sl_list (pe_lxn 0 (pv 3)) po_none (po_some (pv 2))) (pe_callTy call_list_of (by rfl) T.n_list (by decide +kernel) (pa_cons (pe_rows (pv 0)) pa_nil))) pe_non))))), ?_⟩
    refine ⟨_, rfl, L, hL, ?_⟩
    refine ⟨_, rfl, rfl, _, rfl, ite2 (fun c => ?_) (fun c => ?_)⟩
    · have e0 : L.P = 0 := by
        have := V.int.inj (of_decide_eq_true c)
        omega
      refine ⟨_, rfl, L, hL, fun r vs hr hv => ⟨r, vs, rfl, .inr (SqT.of hr), fun l nl => ?_⟩⟩
      have eX : L.rows = X := by rw [rep.rows, e0, List.drop_zero]
      rw [eX] at hv
      exact q _ l (new_ nl) ⟨vs, upd_same, rows_same (new_ nl) hv⟩
    · have e0 : 0 < L.P := by
        apply Classical.byContradiction
        intro hn
        have : L.P = 0 := by omega
        exact c (by rw [this]; exact decide_eq_true rfl)
      have hlen := Paired.length hH.each
      have hlen' : as.length = hs.length := hlen
      refine ⟨_, rfl, a, rfl, ⟨_, SqL.of hH.lst⟩, fun D nD => lc_it (walk_list (xs := as.map V.ref)) (fun m H2 => Same H H2 ∧ H2 D = some (.lst ((as.take m).map V.ref)))
        ⟨new_ nD, upd_same⟩ (fun m H2 _ p => SqL.of (p.1 _ _ hH.lst)) (fun m y H2 H2' hm p yy => ?_) (fun H2 p => ?_)⟩
      · obtain ⟨rfl, hx⟩ := yy
        obtain ⟨s2, hD⟩ := p
        rw [List.getElem?_map] at hx
        obtain ⟨b, eb, rfl⟩ := Option.map_eq_some_iff.mp hx
        have hH2 := hH.same s2
        obtain ⟨h, eh, ⟨ws, hb1, hb2⟩⟩ := pd_left hH2.each eb
        have l1 := Paired.length hb2
        obtain ⟨z1, z2, z3⟩ := hcom h (List.mem_of_getElem? eh)
        have g1 : h[L.P - 1]? = some (h[L.P - 1]'(by omega)) := List.getElem?_eq_getElem (by omega)
        have er : L.R = (h[L.P - 1]'(by omega)).1 := by
          rw [rep.reign, ← rg_take (X := X) (Nat.le_refl L.P), ← z2, rg_take (Nat.le_refl _)]
          exact rg_at e0 g1
        generalize (h[L.P - 1]'(by omega)) = r1 at g1 er
        obtain ⟨v1, ev1, hv1⟩ := pd_right hb2 g1
        refine ⟨rfl, ?_⟩
        refine ⟨_, rfl, b, ws, rfl, hb1, _, rfl, _, _, rfl, rfl, true, congrArg V.bl (decide_eq_true (by omega)), iteT ?_⟩
        refine ⟨_, rfl, _, rfl, _, _, rfl, rfl, b, ws, _, v1, rfl, rfl, hb1, at_of (j := L.P - 1) (by omega) ev1, r1, hv1, _, rfl, L, hL.same s2, rfl, true, ?_, iteT ?_⟩
        · rw [er]
          simp
        · refine ⟨_, rfl, _, hD, ?_, ?_⟩
          · rw [List.length_map, List.length_take]
            exact size_lt (by omega)
          · refine ⟨same_mut s2 nD, ?_⟩
            rw [upd_same, List.take_add_one, eb, List.map_append]
            rfl
      · obtain ⟨s2, hD⟩ := p
        rw [List.length_map, List.take_length] at hD
        have hH2 := hH.same s2
        have hL2 := hL.same s2
        have hS : HeadsAt H2 D as hs := ⟨hD, hH2.each⟩
        have ne := hne e0
        refine ⟨_, rfl, Nat.zero_le _, fun u nu => ?_⟩
        have s3 := new_ (o := .lst []) nu
        have hS3 := hS.same s3
        refine ⟨_, _, fun K => hS3.dp, fun K => .lst (SqL.of upd_same) .nil, flatD_shaped (heads_flat hok), flatD_shaped (flatD_lst (flatDs_nil 0)), true, ?_, iteT ?_⟩
        · rw [eqv_nil]
          cases hs with
          | nil => exact absurd rfl ne
          | cons x r => rfl
        · obtain ⟨h0, e0'⟩ : ∃ h0, hs[0]? = some h0 := by
            cases hs with
            | nil => exact absurd rfl ne
            | cons x r => exact ⟨x, rfl⟩
          obtain ⟨b0, eb0, ⟨ws0, hb1, hb2⟩⟩ := pd_right hS3.each e0'
          have ea0 : (as.map V.ref)[0]? = some (.ref b0) := by
            rw [List.getElem?_map, eb0]
            rfl
          have l1 := Paired.length hb2
          obtain ⟨z1, z2, z3⟩ := hcom h0 (List.mem_of_getElem? e0')
          refine ⟨_, rfl, D, _, _, rfl, hS3.lst, ea0, _, rfl, (L.P : Nat), rfl, b0, ws0, rfl, SqL.of hb1, fun c nc => ?_⟩
          have s4 := new_ (o := .lst (cutV ws0 none (some ((L.P : Nat) : Int)))) nc
          refine ⟨_, rfl, L, hL2.same (s3.trans s4), fun r vs hr hv => ⟨r, vs, rfl, .inr (SqT.of hr), fun l nl => ?_⟩⟩
          have s5 := new_ (o := .lst vs) nl
          have lv := Paired.length hv
          have lr : L.rows.length ≤ 500 := by
            rw [rep.rows, List.length_drop]
            omega
          refine ⟨c, l, _, _, rfl, rfl, SqL.of (s5 _ _ upd_same), SqL.of upd_same, ?_, fun p np => ?_⟩
          · rw [cut_to (by omega), List.length_take]
            exact size_small (by omega)
          · have s6 := new_ (o := .lst (cutV ws0 none (some ((L.P : Nat) : Int)) ++ vs)) np
            refine q _ p (((((s2.trans s3).trans s4).trans s5).trans s6)) ⟨_, upd_same, ?_⟩
            rw [cut_to (by omega)]
            have eX : X = h0.take L.P ++ L.rows := by rw [z2, rep.rows, List.take_append_drop]
            have key := pd_append (pd_take L.P (rows_same ((s4.trans s5).trans s6) hb2)) (rows_same (s5.trans s6) hv)
            rw [← eX, cut_to (xs := ws0) (n := L.P) (by omega)] at key
            exact key
end
end K7
namespace K7
open PySem PySem.Spec PyProof.Rows L2
theorem ixN_of {n : Nat} {r : Int} (h0 : 0 ≤ r) (h1 : r < (n : Int)) : ixN n r = some r.toNat := by
  unfold ixN
  rw [if_pos h0, if_pos h1]
theorem set_map {α β : Type} (f : α → β) (l : List α) (i : Nat) (x : α) : (l.map f).set i (f x) = (l.set i x).map f := by
  rw [List.map_set]
/-- the draws, the logs, the heads as they lie -/
structure Wd (H : Hp) (s lA hA : Addr) (n : Nat) (vs : List V) (as : List Addr) (Ls : List Lo) (hs : List (List Rw)) : Prop where
  st : StreamAt H s n
  logs : H lA = some (.lst vs)
  log : Paired (LogAt H) vs Ls
  heads : HeadsAt H hA as hs
  off : ∀ b ∈ as, b ≠ s ∧ b ≠ lA ∧ b ≠ hA
  d1 : s ≠ lA
  d2 : s ≠ hA
  d3 : lA ≠ hA
section
variable {H H' : Hp} {s lA hA : Addr} {n m : Nat} {vs : List V} {as : List Addr} {Ls : List Lo} {hs : List (List Rw)}
theorem logs_kp {l : List Addr} (k : Kp l H H') (h : Paired (LogAt H) vs Ls) : Paired (LogAt H') vs Ls := Paired.mapP h fun _ _ x => x.kp k
theorem heads_kp {l : List Addr} (k : Kp l H H') : ∀ {as : List Addr} {hs : List (List Rw)}, Paired (HeadAt H) as hs → (∀ b ∈ as, b ∉ l) → Paired (HeadAt H') as hs
  | _, _, .nil, _ => .nil
  | _, _, .cons x t, h => .cons (x.kp k (h _ List.mem_cons_self)) (heads_kp k t fun b hb => h b (List.mem_cons_of_mem _ hb))
theorem Wd.kp (W : Wd H s lA hA n vs as Ls hs) (k : Kp [s] H H') (st : StreamAt H' s m) : Wd H' s lA hA m vs as Ls hs :=
  ⟨st, k.lst _ _ (by simpa using W.d1.symm) W.logs, logs_kp k W.log, ⟨k.lst _ _ (by simpa using W.d2.symm) W.heads.lst, heads_kp k W.heads.each fun b hb => by simpa using (W.off b hb).1⟩, W.off, W.d1, W.d2, W.d3⟩
theorem Wd.same (W : Wd H s lA hA n vs as Ls hs) (k : Same H H') : Wd H' s lA hA n vs as Ls hs := W.kp (.of k) (W.st.same k)
/-- a new list's place -/
theorem Wd.fresh (W : Wd H s lA hA n vs as Ls hs) {p : Addr} (np : H p = none) : p ≠ s ∧ p ≠ lA ∧ p ≠ hA := by
  obtain ⟨_, _, _, _, e, _⟩ := W.st
  exact ⟨(ne_of_none e np).symm, (ne_of_none W.logs np).symm, (ne_of_none W.heads.lst np).symm⟩
theorem Wd.setLog (W : Wd H s lA hA n vs as Ls hs) {v : V} {L : Lo} (h : LogAt H v L) (i : Nat) : Wd (upd H lA (.lst (vs.set i v))) s lA hA n (vs.set i v) as (Ls.set i L) hs := by
  have k : Kp [lA] H (upd H lA (.lst (vs.set i v))) := Kp.upd W.logs (by simp)
  refine ⟨W.st.kp k (by simpa using W.d1), upd_same, pd_set (h.kp k) i (logs_kp k W.log), ⟨k.lst _ _ (by simpa using W.d3.symm) W.heads.lst, heads_kp k W.heads.each fun b hb => by simpa using (W.off b hb).2.1⟩, W.off, W.d1, W.d2, W.d3⟩
theorem Wd.setHead (W : Wd H s lA hA n vs as Ls hs) {b : Addr} {h : List Rw} (hb : HeadAt H b h) (o : b ≠ s ∧ b ≠ lA ∧ b ≠ hA) (i : Nat) : Wd (upd H hA (.lst ((as.set i b).map V.ref))) s lA hA n vs (as.set i b) Ls (hs.set i h) := by
  have k : Kp [hA] H (upd H hA (.lst ((as.set i b).map V.ref))) := Kp.upd W.heads.lst (by simp)
  refine ⟨W.st.kp k (by simpa using W.d2), k.lst _ _ (by simpa using W.d3) W.logs, logs_kp k W.log, ⟨upd_same, pd_set (hb.kp k (by simpa using o.2.2)) i (heads_kp k W.heads.each fun b hb => by simpa using (W.off b hb).2.2)⟩, fun c hc => ?_, W.d1, W.d2, W.d3⟩
  rcases List.mem_or_eq_of_mem_set hc with z | rfl
  · exact W.off c z
  · exact o
theorem Wd.addHead (W : Wd H s lA hA n vs as Ls hs) {b : Addr} {h : List Rw} (hb : HeadAt H b h) (o : b ≠ s ∧ b ≠ lA ∧ b ≠ hA) : Wd (upd H hA (.lst ((as ++ [b]).map V.ref))) s lA hA n vs (as ++ [b]) Ls (hs ++ [h]) := by
  have k : Kp [hA] H (upd H hA (.lst ((as ++ [b]).map V.ref))) := Kp.upd W.heads.lst (by simp)
  refine ⟨W.st.kp k (by simpa using W.d2), k.lst _ _ (by simpa using W.d3) W.logs, logs_kp k W.log, ⟨upd_same, pd_append (heads_kp k W.heads.each fun b hb => by simpa using (W.off b hb).2.2) (pd_one (hb.kp k (by simpa using o.2.2)))⟩, fun c hc => ?_, W.d1, W.d2, W.d3⟩
  rcases List.mem_append.mp hc with z | z
  · exact W.off c z
  · rw [List.mem_singleton.mp z]
    exact o
theorem Wd.log_at (W : Wd H s lA hA n vs as Ls hs) (h3 : Ls.length = 3) {r : Int} (r0 : 0 ≤ r) (r1 : r < 3) : ∃ v L, vs[r.toNat]? = some v ∧ Ls[r.toNat]? = some L ∧ LogAt H v L ∧ L ∈ Ls := by
  have hr : r.toNat < Ls.length := by omega
  obtain ⟨v, ev, hv⟩ := pd_right W.log (List.getElem?_eq_getElem hr)
  exact ⟨v, _, ev, List.getElem?_eq_getElem hr, hv, List.getElem_mem hr⟩
theorem Wd.vs_len (W : Wd H s lA hA n vs as Ls hs) : vs.length = Ls.length := Paired.length W.log
theorem Wd.as_len (W : Wd H s lA hA n vs as Ls hs) : as.length = hs.length := Paired.length W.heads.each
theorem Wd.k3 (W : Wd H s lA hA n vs as Ls hs) (k : Kp [s] H H') : Kp [s, lA, hA] H H' := k.mono (by simp)
end
section
variable {M0 : List Int} {k d : Nat} {hs : List (List Rw)} {Ls : List Lo} {L : Lo} {X : List Rw}
/-- what is asked ahead of a log's rows -/
theorem rows_pre (g : Good okD M0 k hs d Ls) (hk : k ≤ 400) (o : LogOk M0 k hs d L X) : (0 < L.P → hs ≠ []) ∧ hs.length ≤ 500 ∧ (∀ h ∈ hs, L.P ≤ h.length ∧ h.take L.P = X.take L.P ∧ h.length ≤ 500) ∧ X.length ≤ 500 := by
  have h1 := o.deep
  have h2 := o.len
  have h3 := g.many
  refine ⟨fun z e => ?_, by omega, fun h hh => ⟨?_, o.com h hh, ?_⟩, by omega⟩
  · have := g.zero e
    omega
  · have := (g.len h hh).1
    omega
  · have := (g.len h hh).2
    omega
theorem same_by_eqv (g : Good okD M0 k hs d Ls) (o : LogOk M0 k hs d L X) (hd : d ≤ X.length) {h0 : List Rw} (m0 : h0 ∈ hs) (e : PyData.eqv (headD (X.take d)) (headD (h0.take d)) = true) : ∀ h ∈ hs, h.take d = X.take d := by
  intro h hh
  rw [g.com h hh h0 m0]
  have hd0 := (g.len h0 m0).1
  refine (g.lm h0 m0).same o.lm hd0 hd ?_
  obtain ⟨_, er⟩ := headD_eqv e
  by_cases z : d = 0
  · subst z
    rfl
  · have g1 : X[d - 1]? = some (X[d - 1]'(by omega)) := List.getElem?_eq_getElem (by omega)
    have g2 : h0[d - 1]? = some (h0[d - 1]'(by omega)) := List.getElem?_eq_getElem (by omega)
    rw [rg_at (by omega) g1, rg_at (by omega) g2]
    refine (er (d - 1) _ _ ?_ ?_).symm
    · rw [List.getElem?_take_of_lt (by omega), g1]
    · rw [List.getElem?_take_of_lt (by omega), g2]
end
section
variable {P : Program} {w : World} {K : PySem.W.Frag} {mg : Str → Option Value} {base : Heap} {f : Addr} {fd : FuncData}
def sp_head_deed : Sp := fun vs' H Q _ => ∃ (s lA hA : Addr) (d n k : Nat) (vs : List V) (as : List Addr) (Ls : List Lo) (hs : List (List Rw)) (M0 : List Int), vs' = [.ref s, .ref lA, .ref hA, .int (d : Nat)] ∧ Wd H s lA hA n vs as Ls hs ∧ Good okD M0 k hs d Ls ∧ Ls.length = 3 ∧
  n ≤ 100 ∧ k ≤ 200 ∧ ∀ H' n' vs2 as' Ls' hs', Kp [s, lA, hA] H H' → Wd H' s lA hA n' vs2 as' Ls' hs' → Good okD M0 (k + 1) hs' d Ls' → Ls'.length = 3 → Q .non H'
theorem ok_head_deed (T : Txt K mg) (F : Fun K "_law_head_deed" "_law_head_deed" s_l_head_deed f fd) : FnOk P w K mg base CX0 6 f fd ["_law_stream_here", "_law_logs", "_law_heads", "_law_deepest"] sp_head_deed := by
  obtain ⟨f1, d1, D1⟩ := T.d_l_take
  obtain ⟨f2, d2, D2⟩ := T.d_l_deed_by
  obtain ⟨f3, d3, D3⟩ := T.d_l_all_rows
  obtain ⟨f4, d4, D4⟩ := T.d_with_row
  refine F.ok sc_l_head_deed (fun vs H Q E h => ?_) (fun cdv A outer s H vs Q E hr h => ?_)
  · obtain ⟨_, _, _, _, _, _, _, _, _, _, _, rfl, _⟩ := h
    rfl
  · obtain ⟨t, lA, hA, d, n, k, vs, as, Ls, hs, M0, rfl, W, G, z3, hn, hk, q⟩ := h
    refine ⟨_, pss_cons (ps_set (i := 4) sc_l_head_deed.nd rfl (.inl rfl) (cl D1 (ok_take T D1.fn) (hr.mono (by decide)) (pa_cons (pv 0) (pa_cons pe_int pa_nil))))
      (C8.pss_cut (ps_if (PW.pt (pw_and (pt_cmpR op_eq (cl D1 (ok_take T D1.fn) (hr.mono (by decide)) (pa_cons (pv 0) (pa_cons pe_int pa_nil))) pe_int (nomark _)) (pw_and1 (pt_cmpR (op_neF hr.units) (pv 2) (pe_lst pa_nil) (nomark _)))))
        (pss_cons (ps_set (i := 5) sc_l_head_deed.nd rfl (.inl rfl) (cl D1 (ok_take T D1.fn) (hr.mono (by decide)) (pa_cons (pv 0) (pa_cons (pe_callB call_lenM (by rfl) T.n_len PySem.boot_len (pa_cons (pv 2) pa_nil)) pa_nil))))
        (pss_cons (ps_asg (pe_op op_catL (pe_ix ix_lm (pv 2) (pv 5) (fun _ _ => rfl)) (pe_lst (pa_cons (pe_tup (pa_cons (pe_op op_add (pv 5) pe_int) (pa_cons (cl D2 (ok_deed_by T D2.fn) hr (pa_cons (pv 0) pa_nil)) pa_nil))) pa_nil))) (pg_sub (pv 2) (pv 5) set_list))
        (pss_one ps_retN))) pss_nil)
      (pss_cons (ps_setLc (i := 6) (own := [("_law_rows", 7)]) (g := gName 7) rfl sc_l_head_deed.nd rfl rfl (sw_true rfl rfl rfl (by decide +kernel)) (pi_list (pv 2)) (blkOk_by (N := N_l_head_deed) (sc := defScope s_l_head_deed) (by decide +kernel)) (fun _ _ _ _ _ => pg_name (i := 7) sc_l_head_deed.nd rfl (Or.inl rfl))
          (fun _ _ _ _ _ => pts_one (pt_cmpR op_ge (pe_callB call_lenM (by rfl) T.n_len PySem.boot_len (pa_cons (pv 7) pa_nil)) (pv 3) (nomark _)))
          (fun _ _ _ _ _ => pv 7))
      (pss_cons (ps_set (i := 7) sc_l_head_deed.nd rfl (.inl rfl) (cl D3 (ok_all_rows T D3.fn) (hr.mono (by decide)) (pa_cons (pe_ix ix_lm (pv 1) (pv 4) (fun _ _ => rfl)) (pa_cons (pv 2) pa_nil))))
      (pss_cons (ps_if (PW.pt (pw_or (pt_cmpR op_isN (pv 7) pe_non (nomark _)) (pw_or1 (pt_cmpR op_lt (pe_callB call_lenM (by rfl) T.n_len PySem.boot_len (pa_cons (pv 7) pa_nil)) (pv 3) (nomark _))))) (pss_one ps_retN) pss_nil)
      (C8.pss_cut (ps_if (PW.pt (pw_and (pt_cmpR (op_neF hr.units) (pv 6) (pe_lst pa_nil) (nomark _)) (pw_and1 (pt_cmpR (op_neF hr.units) (pe_slice sl_list (pv 7) po_none (po_some (pv 3))) (pe_slice sl_list (pe_lxn 0 (pv 6)) po_none (po_some (pv 3))) (nomark _))))) (pss_one ps_retN) pss_nil)
      (pss_cons (ps_expr (pe_bm PySem.F.plainAttrs_list PySem.F.slot_list_append PySem.F.type_list_append mt_append (pv 2) (pa_cons (pe_op op_catL (pv 7) (pe_lst (pa_cons (pe_tup (pa_cons (pe_op op_add (pe_callB call_lenM (by rfl) T.n_len PySem.boot_len (pa_cons (pv 2) pa_nil)) pe_int) (pa_cons (pe_tup (pa_cons pe_str pa_nil)) pa_nil))) pa_nil))) pa_nil)))
      (pss_one (ps_asg (cl D4 (ok_with_row T D4.fn) (hr.mono (by decide)) (pa_cons (pe_ix ix_lm (pv 1) (pv 4) (fun _ _ => rfl)) (pa_cons (pe_tup (pa_cons (pe_callB call_lenM (by rfl) T.n_len PySem.boot_len (pa_cons (pv 2) pa_nil)) (pa_cons (pe_tup (pa_cons pe_str pa_nil)) pa_nil))) pa_nil))) (pg_sub (pv 1) (pv 4) set_list))))))))), ?_⟩
    refine ⟨_, rfl, t, n, 3, rfl, W.st, by omega, by decide, by decide, fun r H1 r0 r1 k1 h1 => ?_⟩
    have W1 := W.kp k1 h1
    have unch : ∀ H' n', Kp [t, lA, hA] H H' → Wd H' t lA hA n' vs as Ls hs → Q .non H' := fun H' n' kk W' => q H' n' vs as Ls hs kk W' (G.mono (Nat.le_succ _)) z3
    refine ⟨fun σ3 H3 => σ3 = [some (.ref t), some (.ref lA), some (.ref hA), some (.int (d : Nat)), some (.int r), none, none, none] ∧ Kp [t, lA, hA] H H3 ∧ Wd H3 t lA hA (n + 2) vs as Ls hs, ?_, fun σ3 H3 hm => ?_⟩
    · refine ⟨_, rfl, t, _, 2, rfl, h1, by omega, by decide, by decide, fun r' H2 _ _ k2 h2 => ?_⟩
      have W2 := W1.kp k2 h2
      have k02 := W.k3 (k1.trans k2)
      refine ⟨rfl, _, rfl, ite2 (fun _ => ?_) (fun _ => ⟨rfl, k02, W2⟩)⟩
      refine ⟨_, rfl, Nat.zero_le _, fun u nu => ?_⟩
      have W3 := W2.same (new_ (o := .lst []) nu)
      have k03 := k02.trans (.of (new_ (o := .lst []) nu))
      refine ⟨_, _, fun K => W3.heads.dp, fun K => .lst (SqL.of upd_same) .nil, flatD_shaped (heads_flat G.oks), flatD_shaped (flatD_lst (flatDs_nil 0)), ?_⟩
      by_cases e : hs = []
      · exact ⟨false, congrArg V.bl (by rw [eqv_nil, e]; rfl), iteF ⟨rfl, k03, W3⟩⟩
      refine ⟨true, congrArg V.bl (by rw [eqv_nil]; cases hs; exact absurd rfl e; rfl), iteT ?_⟩
      have hpos : 0 < hs.length := List.length_pos_iff.mpr e
      have hmany := G.many
      have al := W.as_len
      refine ⟨_, rfl, _, rfl, hA, _, rfl, W3.heads.lst, t, _, _, rfl, W3.st, by omega, by rw [List.length_map]; omega, by rw [List.length_map]; omega, fun wi H4 w0 w1 k4 h4 => ?_⟩
      rw [List.length_map] at w1
      obtain ⟨wn, rfl⟩ : ∃ wn : Nat, wi = (wn : Int) := ⟨wi.toNat, (nat_of w0).symm⟩
      have W4 := W3.kp k4 h4
      have k04 := k03.trans (W3.k3 k4)
      have hwn : wn < hs.length := by omega
      have eh : hs[wn]? = some hs[wn] := List.getElem?_eq_getElem hwn
      generalize hs[wn] = h at eh
      obtain ⟨b, eb, _⟩ := pd_right W4.heads.each eh
      have eb' : (as.map V.ref)[wn]? = some (.ref b) := by
        rw [List.getElem?_map, eb]
        rfl
      refine ⟨_, rfl, _, rfl, hA, _, _, .ref b, rfl, rfl, W4.heads.lst, atI_nat eb', _, rfl, _, _, rfl, rfl, _, rfl, t, _, rfl, W4.st, by omega, fun H5 db dd k5 h5 hd ok => ⟨by show 2 ≤ sizeLine; decide, fun p np => ⟨by show 1 ≤ sizeLine; decide, fun p2 np2 => ?_⟩⟩⟩
      have W5 := W4.kp k5 h5
      obtain ⟨ws, hb1, hb2⟩ := pd_get W5.heads.each eb eh
      have s6 := (new_ (o := .tup [.int ((wn : Int) + 1), .ref db]) np).trans (new_ (o := .lst [.ref p]) np2)
      have lw := Paired.length hb2
      have hm := List.mem_of_getElem? eh
      have lh := (G.len h hm).2
      refine ⟨b, p2, _, _, rfl, rfl, SqL.of (s6 _ _ hb1), SqL.of upd_same, size_small (by show ws.length + 1 ≤ 1000; omega), fun p3 np3 => ?_⟩
      have s7 := s6.trans (new_ (o := .lst (ws ++ [.ref p])) np3)
      have W7 := W5.same s7
      have k07 := (k04.trans (W4.k3 k5)).trans (.of s7)
      have hH3 : HeadAt _ p3 (h ++ [(wn + 1, dd)]) := ⟨_, upd_same, pd_append (rows_same s7 hb2) (pd_one ⟨p, db, rfl, (new_ (o := .lst (ws ++ [.ref p])) np3) _ _ ((new_ (o := .lst [.ref p]) np2) _ _ upd_same), hd.kp (l := []) (.of s7)⟩)⟩
      have of3 := (W5.same s6).fresh np3
      refine ⟨_, rfl, _, rfl, hA, _, _, wn, rfl, rfl, W7.heads.lst, ixN_of w0 (by rw [List.length_map]; omega), ?_⟩
      rw [set_map]
      exact q _ _ _ _ _ _ (k07.trans (Kp.upd W7.heads.lst (by simp))) (W7.setHead hH3 of3 wn) (G.row eh ok) z3
    obtain ⟨rfl, k03, W3⟩ := hm
    obtain ⟨v, L, ev, eL, _, mL⟩ := W.log_at z3 r0 r1
    obtain ⟨X, o, qx⟩ := G.logs L mL
    obtain ⟨pre1, pre2, pre3, pre4⟩ := rows_pre G (by omega) o
    -- full
    have hlen := W.as_len
    refine ⟨_, rfl, hA, rfl, ⟨_, SqL.of W3.heads.lst⟩, fun D nD => lc_it (walk_list (xs := as.map V.ref)) (fun m H4 => Same H3 H4 ∧ H4 D = some (.lst ((as.take m).map V.ref)))
      ⟨new_ nD, upd_same⟩ (fun m H4 _ p => SqL.of (p.1 _ _ W3.heads.lst)) (fun m y H4 H4' hm p yy => ?_) (fun H4 p => ?_)⟩
    · obtain ⟨rfl, hx⟩ := yy
      obtain ⟨s4, hD⟩ := p
      rw [List.getElem?_map] at hx
      obtain ⟨b, eb, rfl⟩ := Option.map_eq_some_iff.mp hx
      obtain ⟨h, eh, ⟨ws, hb1, hb2⟩⟩ := pd_left (W3.same s4).heads.each eb
      have l1 := Paired.length hb2
      have lh := (G.len h (List.mem_of_getElem? eh)).1
      refine ⟨rfl, ?_⟩
      refine ⟨_, rfl, b, ws, rfl, hb1, _, rfl, _, _, rfl, rfl, true, congrArg V.bl (decide_eq_true (by omega)), iteT ?_⟩
      refine ⟨_, rfl, _, hD, ?_, ?_⟩
      · have := G.many
        rw [List.length_map, List.length_take]
        exact size_lt (by omega)
      · refine ⟨same_mut s4 nD, ?_⟩
        rw [upd_same, List.take_add_one, eb, List.map_append]
        rfl
    obtain ⟨s4, hD⟩ := p
    rw [List.length_map, List.take_length] at hD
    have W4 := W3.same s4
    have k04 := k03.trans (.of s4)
    -- rows
    obtain ⟨v', L', ev', eL', hL, _⟩ := W4.log_at z3 r0 r1
    rw [ev] at ev'
    rw [eL] at eL'
    cases Option.some.inj ev'
    cases Option.some.inj eL'
    refine ⟨_, rfl, _, rfl, lA, vs, r, v, rfl, rfl, W4.logs, at_of (nat_of r0).symm ev, _, rfl, v, hA, as, hs, L, X, M0, rfl, hL, W4.heads, o.rep, pre1, pre2, pre3, G.oks, pre4, fun H5 p s5 hp => ?_⟩
    have W5 := W4.same s5
    have k05 := k04.trans (.of s5)
    obtain ⟨ws, hp1, hp2⟩ := hp
    have lw := Paired.length hp2
    refine ⟨_, rfl, rfl, false, congrArg V.bl (decide_eq_false (by intro z; cases z)), iteF ?_⟩
    refine ⟨_, rfl, p, ws, rfl, hp1, _, rfl, _, _, rfl, rfl, _, rfl, ite2 (fun _ => unch H5 _ k05 W5) (fun c => ?_)⟩
    have hd : d ≤ X.length := by
      apply Classical.byContradiction
      intro hn
      exact c (decide_eq_true (by omega))
    have hD5 := s5 _ _ hD
    have hS : HeadsAt H5 D as hs := ⟨hD5, W5.heads.each⟩
    have zX := o.len
    refine ⟨fun σ6 H6 => σ6 = [some (.ref t), some (.ref lA), some (.ref hA), some (.int (d : Nat)), some (.int r), none, some (.ref D), some (.ref p)] ∧ Same H5 H6 ∧ ∀ h ∈ hs, h.take d = X.take d, ?_, fun σ6 H6 hm => ?_⟩
    · refine ⟨_, rfl, Nat.zero_le _, fun u nu => ?_⟩
      have s6 := new_ (o := .lst []) nu
      have hS6 := hS.same s6
      refine ⟨_, _, fun K => hS6.dp, fun K => .lst (SqL.of upd_same) .nil, flatD_shaped (heads_flat G.oks), flatD_shaped (flatD_lst (flatDs_nil 0)), ?_⟩
      by_cases e : hs = []
      · refine ⟨false, congrArg V.bl (by rw [eqv_nil, e]; rfl), iteF ⟨rfl, s6, fun h hh => ?_⟩⟩
        rw [e] at hh
        cases hh
      refine ⟨true, congrArg V.bl (by rw [eqv_nil]; cases hs; exact absurd rfl e; rfl), iteT ?_⟩
      obtain ⟨h0, e0'⟩ : ∃ h0, hs[0]? = some h0 := by
        cases hs with
        | nil => exact absurd rfl e
        | cons x r => exact ⟨x, rfl⟩
      have m0 := List.mem_of_getElem? e0'
      obtain ⟨b0, eb0, ⟨ws0, hb1, hb2⟩⟩ := pd_right hS6.each e0'
      have ea0 : (as.map V.ref)[0]? = some (.ref b0) := by
        rw [List.getElem?_map, eb0]
        rfl
      have l0 := Paired.length hb2
      have d0 := (G.len h0 m0).1
      refine ⟨_, rfl, _, rfl, (d : Nat), rfl, p, ws, rfl, SqL.of (s6 _ _ hp1), fun c1 nc1 => ?_⟩
      have s7 := new_ (o := .lst (cutV ws none (some ((d : Nat) : Int)))) nc1
      refine ⟨_, rfl, D, _, _, rfl, s7 _ _ hS6.lst, ea0, _, rfl, (d : Nat), rfl, b0, ws0, rfl, SqL.of (s7 _ _ hb1), fun c2 nc2 => ?_⟩
      have s8 := new_ (o := .lst (cutV ws0 none (some ((d : Nat) : Int)))) nc2
      have dp1 : HeadAt (upd (upd (upd H5 u (.lst [])) c1 (.lst (cutV ws none (some ((d : Nat) : Int))))) c2 (.lst (cutV ws0 none (some ((d : Nat) : Int))))) c1 (X.take d) := ⟨_, s8 _ _ upd_same, by
        rw [cut_to (xs := ws) (n := d) (by omega)]
        have := pd_take d (rows_same ((s6.trans s7).trans s8) hp2)
        rw [cut_to (xs := ws) (n := d) (by omega)] at this
        exact this⟩
      have dp2 : HeadAt (upd (upd (upd H5 u (.lst [])) c1 (.lst (cutV ws none (some ((d : Nat) : Int))))) c2 (.lst (cutV ws0 none (some ((d : Nat) : Int))))) c2 (h0.take d) := ⟨_, upd_same, by
        rw [cut_to (xs := ws0) (n := d) (by omega)]
        have := pd_take d (rows_same (s7.trans s8) hb2)
        rw [cut_to (xs := ws0) (n := d) (by omega)] at this
        exact this⟩
      refine ⟨_, _, fun K => dp1.dp, fun K => dp2.dp, flatD_shaped (headD_flat fun r hr => qx r (List.mem_of_mem_take hr)), flatD_shaped (headD_flat fun r hr => G.oks h0 m0 r (List.mem_of_mem_take hr)), _, rfl, ite2 (fun _ => ?_) (fun cc => ?_)⟩
      · exact unch _ _ (k05.trans (.of ((s6.trans s7).trans s8))) (W5.same ((s6.trans s7).trans s8))
      · refine ⟨rfl, (s6.trans s7).trans s8, same_by_eqv G o hd m0 ?_⟩
        simpa using cc
    · obtain ⟨rfl, s6, hc⟩ := hm
      have W6 := W5.same s6
      have k06 := k05.trans (.of s6)
      have hp1' := s6 _ _ hp1
      have hp2' := rows_same s6 hp2
      have el : ((as.map V.ref).length : Int) = ((hs.length : Nat) : Int) := by rw [List.length_map, hlen]
      have gm := G.many
      -- heads.append
      refine ⟨_, rfl, .inl ⟨rfl, _, SqL.of W6.heads.lst⟩, _, rfl, _, rfl, hA, _, rfl, W6.heads.lst, _, _, rfl, rfl, ?_⟩
      rw [el]
      refine ⟨by show 1 ≤ sizeLine; decide, fun pb npb => ⟨by show 2 ≤ sizeLine; decide, fun pr npr => ⟨by show 1 ≤ sizeLine; decide, fun pl npl => ?_⟩⟩⟩
      have s7 := ((new_ (o := .tup [.str "blank"]) npb).trans (new_ (o := .tup [.int (((hs.length : Nat) : Int) + 1), .ref pb]) npr)).trans (new_ (o := .lst [.ref pr]) npl)
      refine ⟨p, pl, ws, _, rfl, rfl, SqL.of (s7 _ _ hp1'), SqL.of upd_same, size_small (by show ws.length + 1 ≤ 1000; omega), fun pn npn => ?_⟩
      have s8 := s7.trans (new_ (o := .lst (ws ++ [.ref pr])) npn)
      have W8 := W6.same s8
      have k08 := k06.trans (.of s8)
      have sB := ((new_ (o := .tup [.int (((hs.length : Nat) : Int) + 1), .ref pb]) npr).trans (new_ (o := .lst [.ref pr]) npl)).trans (new_ (o := .lst (ws ++ [.ref pr])) npn)
      have hN : HeadAt _ pn (X ++ [(hs.length + 1, .blank)]) := ⟨_, upd_same, pd_append (rows_same s8 hp2') (pd_one ⟨pr, pb, rfl, (new_ (o := .lst (ws ++ [.ref pr])) npn) _ _ ((new_ (o := .lst [.ref pr]) npl) _ _ upd_same),
        sB _ _ upd_same⟩)⟩
      have ofN := (W6.same s7).fresh npn
      refine ⟨hA, _, .ref pn, rfl, rfl, W8.heads.lst, size_lt (by rw [List.length_map]; omega), ?_⟩
      have em : as.map V.ref ++ [V.ref pn] = (as ++ [pn]).map V.ref := by
        rw [List.map_append]
        rfl
      rw [em]
      have W9 := W8.addHead hN ofN
      have k09 := k08.trans (Kp.upd (ys := (as ++ [pn]).map V.ref) W8.heads.lst (by simp))
      generalize upd _ hA (HO.lst ((as ++ [pn]).map V.ref)) = H9 at W9 k09 ⊢
      have el9 : (((as ++ [pn]).map V.ref).length : Int) = ((hs.length + 1 : Nat) : Int) := by
        rw [List.length_map, List.length_append, hlen]
        rfl
      obtain ⟨v', L', ev', eL', hL9, _⟩ := W9.log_at z3 r0 r1
      rw [ev] at ev'
      rw [eL] at eL'
      cases Option.some.inj ev'
      cases Option.some.inj eL'
      -- logs[at] = with_row(..)
      refine ⟨_, rfl, _, rfl, lA, vs, r, v, rfl, rfl, W9.logs, at_of (nat_of r0).symm ev, _, rfl, hA, _, rfl, W9.heads.lst, ?_⟩
      rw [el9]
      refine ⟨by show 1 ≤ sizeLine; decide, fun pb2 npb2 => ⟨by show 2 ≤ sizeLine; decide, fun pr2 npr2 => ?_⟩⟩
      have s10 := (new_ (o := .tup [.str "blank"]) npb2).trans (new_ (o := .tup [.int ((hs.length + 1 : Nat) : Int), .ref pb2]) npr2)
      have lr : L.rows.length ≤ 500 := by
        rw [o.rep.rows, List.length_drop]
        omega
      refine ⟨v, .ref pr2, L, (hs.length + 1, .blank), rfl, hL9.same s10, ⟨pr2, pb2, rfl, upd_same, (new_ (o := .tup [.int ((hs.length + 1 : Nat) : Int), .ref pb2]) npr2) _ _ upd_same⟩, lr, fun H11 z s11 hz => ?_⟩
      have W11 := W9.same (s10.trans s11)
      have k11 := k09.trans (.of (s10.trans s11))
      refine ⟨_, rfl, _, rfl, lA, vs, r, r.toNat, rfl, rfl, W11.logs, ixN_of r0 (by rw [W11.vs_len, z3]; exact r1), ?_⟩
      refine q _ _ _ _ _ _ (k11.trans (Kp.upd W11.logs (by simp))) (W11.setLog hz r.toNat) (G.reign o qx trivial hd hc) ?_
      rw [List.length_set]
      exact z3
end
end K7
namespace K7
open PySem PySem.Spec PyProof.Rows L2
section
variable {P : Program} {w : World} {K : PySem.W.Frag} {mg : Str → Option Value} {base : Heap} {f : Addr} {fd : FuncData}
def sp_sent : Sp := fun vs' H Q _ => ∃ (s lA hA : Addr) (d n k : Nat) (vs : List V) (as : List Addr) (Ls : List Lo) (hs : List (List Rw)) (M0 : List Int), vs' = [.ref s, .ref lA, .ref hA] ∧ Wd H s lA hA n vs as Ls hs ∧ Good okD M0 k hs d Ls ∧ Ls.length = 3 ∧ hs ≠ [] ∧
  n ≤ 100 ∧ k ≤ 200 ∧ ∀ H' n' vs2 Ls', Kp [s, lA, hA] H H' → Wd H' s lA hA n' vs2 as Ls' hs → Good okD M0 k hs d Ls' → Ls'.length = 3 → Q .non H'
theorem ok_sent (T : Txt K mg) (F : Fun K "_law_sent" "_law_sent" s_l_sent f fd) : FnOk P w K mg base CX0 6 f fd ["_law_stream_here", "_law_logs", "_law_heads"] sp_sent := by
  obtain ⟨f1, d1, D1⟩ := T.d_l_take
  obtain ⟨f2, d2, D2⟩ := T.d_last
  obtain ⟨f3, d3, D3⟩ := T.d_reign_at
  obtain ⟨f4, d4, D4⟩ := T.d_put_rows
  refine F.ok sc_l_sent (fun vs H Q E h => ?_) (fun cdv A outer s H vs Q E hr h => ?_)
  · obtain ⟨_, _, _, _, _, _, _, _, _, _, _, rfl, _⟩ := h
    rfl
  · obtain ⟨t, lA, hA, d, n, k, vs, as, Ls, hs, M0, rfl, W, G, z3, hne, hn, hk, q⟩ := h
    refine ⟨_, pss_cons (ps_set (i := 3) sc_l_sent.nd rfl (.inl rfl) (pe_ix ix_lm (pv 2) (cl D1 (ok_take T D1.fn) (hr.mono (by decide)) (pa_cons (pv 0) (pa_cons (pe_callB call_lenM (by rfl) T.n_len PySem.boot_len (pa_cons (pv 2) pa_nil)) pa_nil))) (fun _ _ => rfl)))
      (pss_cons (ps_set (i := 4) sc_l_sent.nd rfl (.inl rfl) (cl D1 (ok_take T D1.fn) (hr.mono (by decide)) (pa_cons (pv 0) (pa_cons pe_int pa_nil))))
      (pss_cons (ps_set (i := 5) sc_l_sent.nd rfl (.inl rfl) (cl D1 (ok_take T D1.fn) (hr.mono (by decide)) (pa_cons (pv 0) (pa_cons (pe_op op_add (pe_callB call_lenM (by rfl) T.n_len PySem.boot_len (pa_cons (pv 3) pa_nil)) pe_int) pa_nil))))
      (C8.pss_cut (ps_if (pt_cmpR op_gt (cl D1 (ok_take T D1.fn) (hr.mono (by decide)) (pa_cons (pv 0) (pa_cons pe_int pa_nil))) pe_int (nomark _))
        (pss_one (ps_set (i := 5) sc_l_sent.nd rfl (.inl rfl) (pe_callB (call_min2 rfl) (by rfl) T.n_min (by decide +kernel) (pa_cons (pe_callB call_lenM (by rfl) T.n_len PySem.boot_len (pa_cons (pv 3) pa_nil))
          (pa_cons (pe_callB (call_max2 rfl) (by rfl) T.n_max (by decide +kernel) (pa_cons pe_int (pa_cons (pe_op op_sub (cl D2 (ok_last T D2.fn) (hr.mono (by decide)) (pa_cons (pe_ix ix_lm (pv 1) (pv 4) (fun _ _ => rfl)) pa_nil)) (cl D1 (ok_take T D1.fn) (hr.mono (by decide)) (pa_cons (pv 0) (pa_cons pe_int pa_nil)))) pa_nil))) pa_nil))))) pss_nil)
      (pss_cons (ps_set (i := 6) sc_l_sent.nd rfl (.inl rfl) (pe_callTy call_tuple_of (by rfl) T.n_tuple (by decide +kernel) (pa_cons (pe_slice sl_list (pv 3) (po_some (pv 5)) (po_some (pe_op op_add (pv 5) (cl D1 (ok_take T D1.fn) (hr.mono (by decide)) (pa_cons (pv 0) (pa_cons pe_int pa_nil)))))) pa_nil)))
      (C8.pss_cut (ps_set (i := 7) sc_l_sent.nd rfl (.inl rfl) (pe_ifExp (pt_cmpR op_gt (pv 5) pe_int (nomark _)) (pe_rg (pe_ix ix_lm (pv 3) (pe_op op_sub (pv 5) pe_int) (fun _ _ => rfl))) pe_int))
      (pss_one (ps_if (PW.pt (pw_or (pt_cmpR op_lt (pv 5) (pe_P (pe_ix ix_lm (pv 1) (pv 4) (fun _ _ => rfl))) (nomark _)) (pw_or1 (pt_cmpR op_eq (cl D3 (ok_reign_at T D3.fn) (hr.mono (by decide)) (pa_cons (pe_ix ix_lm (pv 1) (pv 4) (fun _ _ => rfl)) (pa_cons (pv 5) pa_nil))) (pv 7) (nomark _)))))
        (pss_one (ps_asg (cl D4 (ok_put_rows T D4.fn) hr (pa_cons (pe_ix ix_lm (pv 1) (pv 4) (fun _ _ => rfl)) (pa_cons (pv 5) (pa_cons (pv 6) pa_nil)))) (pg_sub (pv 1) (pv 4) set_list))) pss_nil))))))), ?_⟩
    have hpos : 0 < hs.length := List.length_pos_iff.mpr hne
    have hmany := G.many
    have al := W.as_len
    refine ⟨_, rfl, _, rfl, _, rfl, hA, _, rfl, W.heads.lst, t, _, _, rfl, W.st, by omega, by rw [List.length_map]; omega, by rw [List.length_map]; omega, fun wi H1 w0 w1 k1 h1 => ?_⟩
    rw [List.length_map] at w1
    obtain ⟨wn, rfl⟩ : ∃ wn : Nat, wi = (wn : Int) := ⟨wi.toNat, (nat_of w0).symm⟩
    have W1 := W.kp k1 h1
    have hwn : wn < hs.length := by omega
    have eh : hs[wn]? = some hs[wn] := List.getElem?_eq_getElem hwn
    generalize hs[wn] = h at eh
    have hm := List.mem_of_getElem? eh
    have lh := G.len h hm
    obtain ⟨b, eb, _⟩ := pd_right W1.heads.each eh
    have eb' : (as.map V.ref)[wn]? = some (.ref b) := by
      rw [List.getElem?_map, eb]
      rfl
    refine ⟨hA, _, _, .ref b, rfl, rfl, W1.heads.lst, atI_nat eb', ?_⟩
    refine ⟨_, rfl, t, _, 3, rfl, h1, by omega, by decide, by decide, fun r H2 r0 r1 k2 h2 => ?_⟩
    have W2 := W1.kp k2 h2
    obtain ⟨ws, hb1, hb2⟩ := pd_get W2.heads.each eb eh
    have lw := Paired.length hb2
    refine ⟨_, rfl, _, rfl, b, ws, rfl, hb1, _, _, rfl, rfl, t, _, _, rfl, h2, by omega, by omega, by omega, fun bf H3 b0 b1 k3 h3 => ?_⟩
    have W3 := W2.kp k3 h3
    obtain ⟨v, L, ev, eL, hL3, mL⟩ := W3.log_at z3 r0 r1
    obtain ⟨X, o, qx⟩ := G.logs L mL
    have k03 := (k1.trans k2).trans k3
    refine ⟨fun σ4 H4 => ∃ bn : Nat, σ4 = [some (.ref t), some (.ref lA), some (.ref hA), some (.ref b), some (.int r), some (.int (bn : Nat)), none, none] ∧ bn ≤ h.length ∧ Kp [t] H H4 ∧ Wd H4 t lA hA (n + 5) vs as Ls hs, ?_, fun σ4 H4 hm4 => ?_⟩
    · refine ⟨_, rfl, t, _, 3, rfl, h3, by omega, by decide, by decide, fun r4 H4 _ _ k4 h4 => ?_⟩
      have W4 := W3.kp k4 h4
      refine ⟨_, _, rfl, rfl, _, rfl, ite2 (fun _ => ?_) (fun _ => ?_)⟩
      · obtain ⟨ws', hb1', hb2'⟩ := pd_get W4.heads.each eb eh
        have lw' := Paired.length hb2'
        refine ⟨_, rfl, b, ws', rfl, hb1', _, rfl, _, rfl, lA, vs, r, v, rfl, rfl, W4.logs, at_of (nat_of r0).symm ev, v, L, rfl, hL3.kp k4, _, rfl, t, _, 3, rfl, h4, by omega, by decide, by decide, fun r5 H5 _ _ k5 h5 => ?_⟩
        refine ⟨_, _, rfl, rfl, _, _, rfl, _, _, rfl, ?_⟩
        obtain ⟨bn, e1, e2⟩ : ∃ bn : Nat, (if (if ((L.last : Nat) : Int) - r5 > 0 then ((L.last : Nat) : Int) - r5 else 0) < ((ws'.length : Nat) : Int) then (if ((L.last : Nat) : Int) - r5 > 0 then ((L.last : Nat) : Int) - r5 else 0) else ((ws'.length : Nat) : Int)) = ((bn : Nat) : Int) ∧ bn ≤ h.length := by
          generalize ((L.last : Nat) : Int) - r5 = z
          by_cases c : z > 0
          · rw [if_pos c]
            by_cases c2 : z < ((ws'.length : Nat) : Int)
            · rw [if_pos c2]
              exact ⟨z.toNat, by omega, by omega⟩
            · rw [if_neg c2]
              exact ⟨ws'.length, rfl, by omega⟩
          · rw [if_neg c]
            by_cases c2 : (0 : Int) < ((ws'.length : Nat) : Int)
            · rw [if_pos c2]
              exact ⟨0, rfl, by omega⟩
            · rw [if_neg c2]
              exact ⟨ws'.length, rfl, by omega⟩
        rw [e1]
        exact ⟨bn, rfl, e2, (k03.trans k4).trans k5, W4.kp k5 h5⟩
      · obtain ⟨bn, rfl⟩ : ∃ bn : Nat, bf = (bn : Int) := ⟨bf.toNat, (nat_of b0).symm⟩
        exact ⟨bn, rfl, by omega, k03.trans k4, W4.kp (.refl _ _) (h4.mono (by omega))⟩
    · obtain ⟨bn, rfl, hbn, k04, W4⟩ := hm4
      obtain ⟨ws4, hb1', hb2'⟩ := pd_get W4.heads.each eb eh
      have lw4 := Paired.length hb2'
      refine ⟨_, rfl, _, rfl, (bn : Nat), rfl, _, rfl, _, rfl, t, _, 9, rfl, W4.st, by omega, by decide, by decide, fun m9 H5 m0 m1 k5 h5 => ?_⟩
      obtain ⟨m, rfl⟩ : ∃ m : Nat, m9 = (m : Int) := ⟨m9.toNat, (nat_of m0).symm⟩
      have W5 := W4.kp k5 h5
      obtain ⟨ws5, hb15, hb25⟩ := pd_get W5.heads.each eb eh
      have lw5 := Paired.length hb25
      have ec : cutV ws5 (some ((bn : Nat) : Int)) (some (((bn : Nat) : Int) + ((m : Nat) : Int))) = (ws5.drop bn).take m := cut_mid (by omega)
      refine ⟨_, _, rfl, rfl, _, rfl, b, ws5, rfl, SqL.of hb15, fun c nc => ?_⟩
      rw [ec]
      have s6 := new_ (o := .lst ((ws5.drop bn).take m)) nc
      refine ⟨c, _, rfl, .inl ⟨SqL.of upd_same, fun tp ntp => ?_⟩⟩
      have s7 := s6.trans (new_ (o := .tup ((ws5.drop bn).take m)) ntp)
      have W7 := W5.same s7
      have htp : RowsAt _ ((ws5.drop bn).take m) ((h.drop bn).take m) := rows_same s7 (pd_take m (pd_drop bn hb25))
      have hb7 := s7 _ _ hb15
      have hr7 := rows_same s7 hb25
      have etp : (upd (upd H5 c (.lst ((ws5.drop bn).take m))) tp (.tup ((ws5.drop bn).take m))) tp = some (.tup ((ws5.drop bn).take m)) := upd_same
      have k07 : Kp [t] H (upd (upd H5 c (.lst ((ws5.drop bn).take m))) tp (.tup ((ws5.drop bn).take m))) := (k04.trans k5).trans (.of s7)
      generalize (upd (upd H5 c (.lst ((ws5.drop bn).take m))) tp (.tup ((ws5.drop bn).take m))) = H7 at W7 htp hb7 hr7 etp k07 ⊢
      refine ⟨fun σ8 H8 => σ8 = [some (.ref t), some (.ref lA), some (.ref hA), some (.ref b), some (.int r), some (.int (bn : Nat)), some (.ref tp), some (.int (rg h bn : Nat))] ∧ H8 = H7, ?_, fun σ8 H8 hm8 => ?_⟩
      · refine ⟨_, rfl, _, _, rfl, rfl, _, rfl, ite2 (fun c1 => ?_) (fun c1 => ?_)⟩
        · have c1' : 0 < bn := by
            have := of_decide_eq_true c1
            omega
          have g1 : h[bn - 1]? = some (h[bn - 1]'(by omega)) := List.getElem?_eq_getElem (by omega)
          have er := rg_at c1' g1
          obtain ⟨v1, ev1, hv1⟩ := pd_right hr7 g1
          refine ⟨_, rfl, _, rfl, _, _, rfl, rfl, b, ws5, _, v1, rfl, rfl, hb7, at_of (j := bn - 1) (by omega) ev1, _, hv1, ?_⟩
          rw [← er]
          exact ⟨rfl, rfl⟩
        · have c1' : bn = 0 := by
            apply Classical.byContradiction
            intro hn
            exact c1 (decide_eq_true (by omega))
          subst c1'
          exact ⟨rfl, rfl⟩
      · obtain ⟨rfl, rfl⟩ := hm8
        obtain ⟨v', L', ev', eL', hL, _⟩ := W7.log_at z3 r0 r1
        rw [ev] at ev'
        rw [eL] at eL'
        cases Option.some.inj ev'
        cases Option.some.inj eL'
        have zX := o.len
        have lr : L.rows.length ≤ 500 := by
          rw [o.rep.rows, List.length_drop]
          omega
        have body : (bn < L.P ∨ L.reignAt bn = some (rg h bn)) → tAsg (tCall sp_put_rows [] E0 (tCons (tOp rIxM (tVar 1) (tVar 4)) (tCons (tVar 5) (tCons (tVar 6) tNil)))) (gSub (tVar 1) (tVar 4) rSetL) { nx := fun _ H' => Q .non H', rt := Q }
            [some (.ref t), some (.ref lA), some (.ref hA), some (.ref b), some (.int r), some (.int (bn : Nat)), some (.ref tp), some (.int (rg h bn : Nat))] H8 := fun hc => by
          have hlast : bn ≤ L.last := by
            rcases hc with hc | hc
            · have : L.P ≤ L.last := Nat.le_add_right _ _
              omega
            · exact reign_le hc
          refine ⟨_, rfl, _, rfl, lA, vs, r, v, rfl, rfl, W7.logs, at_of (nat_of r0).symm ev, _, rfl, _, rfl, v, L, bn, tp, _, _, rfl, hL, hlast, etp, htp, lr, by rw [List.length_take, List.length_drop]; omega, fun H9 z s9 hz => ?_⟩
          have W9 := W7.same s9
          have k09 := k07.trans (.of s9)
          refine ⟨_, rfl, _, rfl, lA, vs, r, r.toNat, rfl, rfl, W9.logs, ixN_of r0 (by rw [W9.vs_len, z3]; exact r1), ?_⟩
          refine q _ _ _ _ ((W.k3 k09).trans (Kp.upd W9.logs (by simp))) (W9.setLog hz r.toNat) (G.put o qx hm hbn hc) ?_
          rw [List.length_set]
          exact z3
        refine ⟨_, rfl, _, rfl, _, rfl, lA, vs, r, v, rfl, rfl, W7.logs, at_of (nat_of r0).symm ev, L, hL, _, _, rfl, rfl, _, rfl, ite2 (fun c1 => ?_) (fun c1 => ?_)⟩
        · exact body (.inl (by have := of_decide_eq_true c1; omega))
        · refine ⟨_, rfl, _, rfl, lA, vs, r, v, rfl, rfl, W7.logs, at_of (nat_of r0).symm ev, _, rfl, v, L, bn, rfl, hL, _, rfl, by cases L.reignAt bn <;> rfl, _, rfl, ite2 (fun c2 => ?_) (fun c2 => ?_)⟩
          · exact body (.inr (oV_inj (b := some (rg h bn)) (of_decide_eq_true c2)))
          · exact q _ _ _ _ (W.k3 k07) W7 G z3
end
end K7
namespace K7
open PySem PySem.Spec PyProof.Rows L2
section
variable {X : Cx}
def rEqF : R2 := fun x y H Q => ∃ d e, (∀ K, Dp K H x d) ∧ (∀ K, Dp K H y e) ∧ SeqAt.shaped d = true ∧ SeqAt.shaped e = true ∧ Q (.bl (PyData.eqv d e)) H
theorem op_eqF (hu : X.A.units + 64 < cLine) : OpR X (compareOp .Eq) rEqF := by
  intro pins s σ H x y v u Q I rx ry h
  obtain ⟨d, e, h1, h2, h3⟩ := h
  exact op_eqD hu pins s σ H x y v u Q I rx ry ⟨d, e, h1 _, h2 _, h3⟩
end
theorem memb_good : ∀ {rows : List Rw} {M : List Int}, GoodM M → (∀ r ∈ rows, okD r.2) → GoodM (memb M rows)
  | [], _, g, _ => g
  | (_, .mem _) :: r, _, _, h => memb_good (rows := r) (h _ List.mem_cons_self) fun x hx => h x (List.mem_cons_of_mem _ hx)
  | (_, .blank) :: r, _, g, h => memb_good (rows := r) g fun x hx => h x (List.mem_cons_of_mem _ hx)
  | (_, .call _) :: r, _, g, h => memb_good (rows := r) g fun x hx => h x (List.mem_cons_of_mem _ hx)
section
variable {M0 : List Int} {k d : Nat} {hs : List (List Rw)} {Ls : List Lo} {L : Lo} {X : List Rw}
theorem good_fold (g : Good okD M0 k hs d Ls) (gM : GoodM M0) (hk : k ≤ 400) (o : LogOk M0 k hs d L X) (qx : ∀ r ∈ X, okD r.2) : GoodF L where
  p := by
    have := o.rep.le
    have := o.len
    omega
  r := by
    rw [o.rep.reign]
    have := o.lm.le o.rep.le
    have := g.many
    omega
  m := by
    rw [o.rep.mem]
    exact memb_good gM fun r hr => qx r (List.mem_of_mem_take hr)
theorem good_folded (g : Good okD M0 k hs d Ls) (gM : GoodM M0) (hk : k ≤ 400) (o : LogOk M0 k hs d L X) (qx : ∀ r ∈ X, okD r.2) {p : Nat} (h1 : L.P ≤ p) (h2 : p ≤ X.length) : GoodF (L.folded p) where
  p := by
    have := o.len
    show p ≤ 1000000
    omega
  r := by
    show (L.reignAt p).getD 0 ≤ 1000000
    rw [o.rep.reignAt h1 h2]
    have := o.lm.le h2
    have := g.many
    show rg X p ≤ 1000000
    omega
  m := by
    show GoodM (L.memAt p)
    rw [o.rep.memAt h1]
    exact memb_good gM fun r hr => qx r (List.mem_of_mem_take hr)
end
section
variable {P : Program} {w : World} {K : PySem.W.Frag} {mg : Str → Option Value} {base : Heap} {f : Addr} {fd : FuncData}
def sp_fold_deed : Sp := fun vs' H Q _ => ∃ (s lA hA : Addr) (d n k : Nat) (vs : List V) (as : List Addr) (Ls : List Lo) (hs : List (List Rw)) (M0 : List Int), vs' = [.ref s, .ref lA, .ref hA, .int (d : Nat)] ∧ Wd H s lA hA n vs as Ls hs ∧ Good okD M0 k hs d Ls ∧ Ls.length = 3 ∧ GoodM M0 ∧
  n ≤ 100 ∧ k ≤ 200 ∧ ∀ H' n' vs2 Ls' d', Kp [s, lA, hA] H H' → Wd H' s lA hA n' vs2 as Ls' hs → Good okD M0 k hs d' Ls' → Ls'.length = 3 → Q (.int (d' : Nat)) H'
theorem ok_fold_deed (T : Txt K mg) (F : Fun K "_law_fold_deed" "_law_fold_deed" s_l_fold_deed f fd) : FnOk P w K mg base CX0 7 f fd ["_law_stream_here", "_law_logs", "_law_heads", "_law_deepest"] sp_fold_deed := by
  obtain ⟨f1, d1, D1⟩ := T.d_l_take
  obtain ⟨f2, d2, D2⟩ := T.d_fold_taken
  obtain ⟨f3, d3, D3⟩ := T.d_l_all_rows
  obtain ⟨f4, d4, D4⟩ := T.d_l_common
  obtain ⟨f5, d5, D5⟩ := T.d_folded
  refine F.ok sc_l_fold_deed (fun vs H Q E h => ?_) (fun cdv A outer s H vs Q E hr h => ?_)
  · obtain ⟨_, _, _, _, _, _, _, _, _, _, _, rfl, _⟩ := h
    rfl
  · obtain ⟨t, lA, hA, d, n, k, vs, as, Ls, hs, M0, rfl, W, G, z3, gM, hn, hk, q⟩ := h
    refine ⟨_, pss_cons (ps_set (i := 4) sc_l_fold_deed.nd rfl (.inl rfl) (cl D1 (ok_take T D1.fn) (hr.mono (by decide)) (pa_cons (pv 0) (pa_cons pe_int pa_nil))))
      (pss_cons (ps_set (i := 5) sc_l_fold_deed.nd rfl (.inl rfl) (cl D1 (ok_take T D1.fn) (hr.mono (by decide)) (pa_cons (pv 0) (pa_cons pe_int pa_nil))))
      (pss_cons (ps_if (pt_cmpR op_eq (cl D1 (ok_take T D1.fn) (hr.mono (by decide)) (pa_cons (pv 0) (pa_cons pe_int pa_nil))) pe_int (nomark _))
        (pss_cons (ps_asg (cl D2 (ok_fold_taken T D2.fn) hr (pa_cons (pe_ix ix_lm (pv 1) (pv 4) (fun _ _ => rfl)) (pa_cons (pe_fold (pe_ix ix_lm (pv 1) (pv 5) (fun _ _ => rfl))) pa_nil))) (pg_sub (pv 1) (pv 4) set_list))
        (pss_one (ps_ret (pv 3)))) pss_nil)
      (pss_cons (ps_set (i := 6) sc_l_fold_deed.nd rfl (.inl rfl) (cl D3 (ok_all_rows T D3.fn) (hr.mono (by decide)) (pa_cons (pe_ix ix_lm (pv 1) (pv 4) (fun _ _ => rfl)) (pa_cons (pv 2) pa_nil))))
      (pss_cons (ps_if (PW.pt (pw_or (pt_cmpR op_isN (pv 6) pe_non (nomark _)) (pw_or1 (pt_cmpR (op_eqF hr.units) (pv 2) (pe_lst pa_nil) (nomark _))))) (pss_one (ps_ret (pv 3))) pss_nil)
      (pss_cons (ps_set (i := 7) sc_l_fold_deed.nd rfl (.inl rfl) (cl D4 (ok_common T D4.fn) (hr.mono (by decide)) (pa_cons (pe_op op_catL (pv 2) (pe_lst (pa_cons (pv 6) pa_nil)))
        (pa_cons (pe_callB (cr_min rfl) (by rfl) T.n_min (by decide +kernel) (pa_cons (pe_op op_catL (pe_lst (pa_cons (pe_callB call_lenM (by rfl) T.n_len PySem.boot_len (pa_cons (pv 6) pa_nil)) pa_nil))
          (pe_lc (own := [("_law_one", 9)]) (g := gName 9) (tt := tYes) rfl sc_l_fold_deed.nd (pi_list (pv 2)) (blkOk_by (N := N_l_fold_deed) (sc := defScope s_l_fold_deed) (by decide +kernel)) (fun _ _ _ _ _ => pg_name (i := 9) sc_l_fold_deed.nd rfl (Or.inl rfl)) (fun _ _ _ _ _ => pts_nil)
            (fun _ _ _ _ _ => pe_callB call_lenM (by rfl) T.n_len PySem.boot_len (pa_cons (pv 9) pa_nil)))) pa_nil)) pa_nil))))
      (pss_cons (ps_set (i := 8) sc_l_fold_deed.nd rfl (.inl rfl) (cl D1 (ok_take T D1.fn) (hr.mono (by decide)) (pa_cons (pv 0) (pa_cons (pe_op op_add (pv 7) pe_int) pa_nil))))
      (C8.pss_cut (ps_if (pt_cmpR op_ge (pv 8) (pe_P (pe_ix ix_lm (pv 1) (pv 4) (fun _ _ => rfl))) (nomark _))
        (pss_one (ps_asg (cl D5 (ok_folded T D5.fn) hr (pa_cons (pe_ix ix_lm (pv 1) (pv 4) (fun _ _ => rfl)) (pa_cons (pv 8) (pa_cons pe_str pa_nil)))) (pg_sub (pv 1) (pv 4) set_list))) pss_nil)
      (pss_one (ps_ret (pe_callB (call_max2 rfl) (by rfl) T.n_max (by decide +kernel) (pa_cons (pv 3) (pa_cons (pe_P (pe_ix ix_lm (pv 1) (pv 4) (fun _ _ => rfl))) pa_nil)))))))))))), ?_⟩
    have hmany := G.many
    have al := W.as_len
    refine ⟨_, rfl, t, _, 3, rfl, W.st, by omega, by decide, by decide, fun r H1 r0 r1 k1 h1 => ?_⟩
    have W1 := W.kp k1 h1
    refine ⟨_, rfl, t, _, 3, rfl, h1, by omega, by decide, by decide, fun r' H2 r0' r1' k2 h2 => ?_⟩
    have W2 := W1.kp k2 h2
    refine ⟨_, rfl, t, _, 2, rfl, h2, by omega, by decide, by decide, fun r3 H3 _ _ k3 h3 => ?_⟩
    have W3 := W2.kp k3 h3
    have k03 := W.k3 ((k1.trans k2).trans k3)
    obtain ⟨v, L, ev, eL, hL, mL⟩ := W3.log_at z3 r0 r1
    obtain ⟨X, o, qx⟩ := G.logs L mL
    refine ⟨rfl, _, rfl, ite2 (fun _ => ?_) (fun _ => ?_)⟩
    · obtain ⟨v2, L2, ev2, eL2, hL2, mL2⟩ := W3.log_at z3 r0' r1'
      obtain ⟨X2, o2, qx2⟩ := G.logs L2 mL2
      refine ⟨_, rfl, _, rfl, lA, vs, r, v, rfl, rfl, W3.logs, at_of (nat_of r0).symm ev, _, rfl, _, rfl, lA, vs, r', v2, rfl, rfl, W3.logs, at_of (nat_of r0').symm ev2, L2, hL2, fun fo hfo => ?_⟩
      refine ⟨v, fo, L, L2, rfl, hL, hfo, good_fold G gM (by omega) o2 qx2, fun H4 z s4 hz => ?_⟩
      have W4 := W3.same s4
      refine ⟨_, rfl, _, rfl, lA, vs, r, r.toNat, rfl, rfl, W4.logs, ixN_of r0 (by rw [W4.vs_len, z3]; exact r1), ?_⟩
      refine ⟨_, rfl, q _ _ _ _ d ((k03.trans (.of s4)).trans (Kp.upd W4.logs (by simp))) (W4.setLog hz r.toNat) (G.taken mL mL2) ?_⟩
      rw [List.length_set]
      exact z3
    obtain ⟨pre1, pre2, pre3, pre4⟩ := rows_pre G (by omega) o
    refine ⟨_, rfl, _, rfl, lA, vs, r, v, rfl, rfl, W3.logs, at_of (nat_of r0).symm ev, _, rfl, v, hA, as, hs, L, X, M0, rfl, hL, W3.heads, o.rep, pre1, pre2, pre3, G.oks, pre4, fun H4 p s4 hp => ?_⟩
    have W4 := W3.same s4
    have k04 := k03.trans (.of s4)
    refine ⟨_, rfl, rfl, false, congrArg V.bl (decide_eq_false (by intro z; cases z)), iteF ?_⟩
    refine ⟨_, rfl, Nat.zero_le _, fun u nu => ?_⟩
    have s5 := new_ (o := .lst []) nu
    have W5 := W4.same s5
    have k05 := k04.trans (.of s5)
    refine ⟨_, _, fun K => W5.heads.dp, fun K => .lst (SqL.of upd_same) .nil, flatD_shaped (heads_flat G.oks), flatD_shaped (flatD_lst (flatDs_nil 0)), ?_⟩
    by_cases e : hs = []
    · exact ⟨true, congrArg V.bl (by rw [eqv_nil, e]; rfl), iteT ⟨_, rfl, q _ _ _ _ d k05 W5 G z3⟩⟩
    refine ⟨false, congrArg V.bl (by rw [eqv_nil]; cases hs; exact absurd rfl e; rfl), iteF ?_⟩
    have hp5 : HeadAt _ p X := hp.kp (l := []) (.of s5) (by simp)
    generalize upd H4 u (HO.lst []) = H5 at W5 k05 hp5 ⊢
    obtain ⟨ws, hp1, hp2⟩ := hp5
    have lw := Paired.length hp2
    have zX := o.len
    refine ⟨_, rfl, _, rfl, by show 1 ≤ sizeLine; decide, fun pl npl => ?_⟩
    have s6 := new_ (o := .lst [.ref p]) npl
    refine ⟨hA, pl, _, _, rfl, rfl, SqL.of (s6 _ _ W5.heads.lst), SqL.of upd_same, size_small (by rw [List.length_map]; show as.length + 1 ≤ 1000; omega), fun p1 np1 => ?_⟩
    have s7 := s6.trans (new_ (o := .lst (as.map V.ref ++ [.ref p])) np1)
    have hC : HeadsAt (upd (upd H5 pl (.lst [.ref p])) p1 (.lst (as.map V.ref ++ [.ref p]))) p1 (as ++ [p]) (hs ++ [X]) := by
      refine ⟨?_, pd_append (heads_same s7 W5.heads.each) (pd_one ⟨ws, s7 _ _ hp1, rows_same s7 hp2⟩)⟩
      rw [upd_same, List.map_append]
      rfl
    have W7 := W5.same s7
    have k07 := k05.trans (.of s7)
    have hp17 := s7 _ _ hp1
    generalize (upd (upd H5 pl (.lst [.ref p])) p1 (.lst (as.map V.ref ++ [.ref p]))) = H7 at hC W7 k07 hp17 ⊢
    refine ⟨_, rfl, p, ws, rfl, hp17, by show 1 ≤ sizeLine; decide, fun pm npm => ?_⟩
    have s8 := new_ (o := .lst [.int (ws.length : Nat)]) npm
    have W8 := W7.same s8
    refine ⟨_, rfl, hA, rfl, ⟨_, SqL.of W8.heads.lst⟩, fun D nD => lc_yes (walk_list (xs := as.map V.ref)) (fun m H9 => Same _ H9 ∧ H9 D = some (.lst (((hs.take m).map fun h => ((h.length : Nat) : Int)).map V.int)))
      ⟨new_ nD, upd_same⟩ (fun m H9 _ p => SqL.of (p.1 _ _ W8.heads.lst)) (fun m y H9 H9' hm p9 yy => ?_) (fun H9 p9 => ?_)⟩
    · obtain ⟨rfl, hx⟩ := yy
      obtain ⟨s9, hD⟩ := p9
      rw [List.getElem?_map] at hx
      obtain ⟨b, eb, rfl⟩ := Option.map_eq_some_iff.mp hx
      obtain ⟨h, eh, ⟨ws2, hb1, hb2⟩⟩ := pd_left (W8.same s9).heads.each eb
      have l1 := Paired.length hb2
      refine ⟨rfl, ?_⟩
      refine ⟨_, rfl, b, ws2, rfl, hb1, _, hD, ?_, ?_⟩
      · rw [List.length_map, List.length_map, List.length_take]
        exact size_lt (by omega)
      · refine ⟨same_mut s9 nD, ?_⟩
        rw [upd_same, List.take_add_one, eh, l1, List.map_append, List.map_append]
        rfl
    obtain ⟨s9, hD⟩ := p9
    rw [List.length_map, al, List.take_length] at hD
    have W9 := W8.same s9
    have k09 := (k07.trans (.of s8)).trans (.of s9)
    have em : [V.int ((ws.length : Nat) : Int)] ++ (hs.map fun h => ((h.length : Nat) : Int)).map V.int = ((((X.length : Nat) : Int) :: hs.map fun h => ((h.length : Nat) : Int))).map V.int := by
      rw [lw]
      rfl
    refine ⟨pm, D, _, _, rfl, rfl, SqL.of (s9 _ _ upd_same), SqL.of hD, size_small (by rw [List.length_map, List.length_map]; show 1 + hs.length ≤ 1000; omega), fun p2 np2 => ?_⟩
    have s10 := new_ (o := .lst ([V.int ((ws.length : Nat) : Int)] ++ (hs.map fun h => ((h.length : Nat) : Int)).map V.int)) np2
    refine ⟨p2, ((X.length : Nat) : Int) :: hs.map fun h => ((h.length : Nat) : Int), rfl, SqL.of (by rw [← em]; exact upd_same), by simp, fun mi mm ml => ?_⟩
    have W10 := W9.same s10
    have k10 := k09.trans (.of s10)
    obtain ⟨least, rfl⟩ : ∃ least : Nat, mi = (least : Int) := by
      rcases List.mem_cons.mp mm with z | z
      · exact ⟨_, z⟩
      · obtain ⟨h, _, z⟩ := List.mem_map.mp z
        exact ⟨_, z.symm⟩
    have le1 : least ≤ X.length := by
      have := ml _ List.mem_cons_self
      omega
    have le2 : ∀ h ∈ hs, least ≤ h.length := fun h hh => by
      have := ml ((h.length : Nat) : Int) (List.mem_cons_of_mem _ (List.mem_map.mpr ⟨h, hh, rfl⟩))
      omega
    refine ⟨p1, as ++ [p], hs ++ [X], least, rfl, (hC.same (s8.trans (s9.trans s10))), by simp, by rw [List.length_append]; show hs.length + 1 ≤ 500; omega, fun h hh => ?_, fun h hh => ?_, by omega, fun H11 far s11 hfar hsame => ?_⟩
    · rcases List.mem_append.mp hh with z | z
      · exact le2 h z
      · rw [List.mem_singleton.mp z]
        exact le1
    · rcases List.mem_append.mp hh with z | z
      · exact G.oks h z
      · rw [List.mem_singleton.mp z]
        exact qx
    have W11 := W10.same s11
    have k11 := k10.trans (.of s11)
    refine ⟨_, rfl, _, rfl, _, _, rfl, rfl, t, _, _, rfl, W11.st, by omega, by omega, by omega, fun pi H12 p0 p1' k12 h12 => ?_⟩
    have W12 := W11.kp k12 h12
    have k012 := k11.trans (W11.k3 k12)
    obtain ⟨pn, rfl⟩ : ∃ pn : Nat, pi = (pn : Int) := ⟨pi.toNat, (nat_of p0).symm⟩
    have hpn : pn ≤ far := by omega
    obtain ⟨v', L', ev', eL', hL12, _⟩ := W12.log_at z3 r0 r1
    rw [ev] at ev'
    rw [eL] at eL'
    cases Option.some.inj ev'
    cases Option.some.inj eL'
    refine ⟨fun σ13 H13 => ∃ (y6 y7 y8 : Option V) (n' : Nat) (vs2 : List V) (Ls' : List Lo) (d' : Nat) (L' : Lo), σ13 = [some (.ref t), some (.ref lA), some (.ref hA), some (.int (d : Nat)), some (.int r), some (.int r'), y6, y7, y8, none] ∧ Kp [t, lA, hA] H H13 ∧ Wd H13 t lA hA n' vs2 as Ls' hs ∧ Good okD M0 k hs d' Ls' ∧
      Ls'.length = 3 ∧ Ls'[r.toNat]? = some L' ∧ max d L'.P = d', ?_, fun σ13 H13 hm => ?_⟩
    · refine ⟨_, rfl, _, rfl, _, rfl, lA, vs, r, v, rfl, rfl, W12.logs, at_of (nat_of r0).symm ev, L, hL12, _, _, rfl, rfl, _, rfl, ite2 (fun c => ?_) (fun c => ?_)⟩
      · have c' : L.P ≤ pn := by
          have := of_decide_eq_true c
          omega
        have cX : pn ≤ X.length := by omega
        refine ⟨_, rfl, _, rfl, lA, vs, r, v, rfl, rfl, W12.logs, at_of (nat_of r0).symm ev, _, rfl, v, L, pn, rfl, hL12, c', by rw [o.rep.last]; exact cX, good_folded G gM (by omega) o qx c' cX, fun H13 z s13 hz => ?_⟩
        have W13 := W12.same s13
        refine ⟨_, rfl, _, rfl, lA, vs, r, r.toNat, rfl, rfl, W13.logs, ixN_of r0 (by rw [W13.vs_len, z3]; exact r1), ?_⟩
        refine ⟨_, _, _, _, _, _, max d pn, L.folded pn, rfl, (k012.trans (.of s13)).trans (Kp.upd W13.logs (by simp)), W13.setLog hz r.toNat, G.fold o qx e c' cX (fun h hh => by have := le2 h hh; omega) (fun h hh => ?_), by rw [List.length_set]; exact z3, by rw [List.getElem?_set_self (by omega)], rfl⟩
        by_cases z : pn = 0
        · subst z
          rfl
        · have lh := le2 h hh
          have g1 : h[pn - 1]? = some (h[pn - 1]'(by omega)) := List.getElem?_eq_getElem (by omega)
          have g2 : X[pn - 1]? = some (X[pn - 1]'(by omega)) := List.getElem?_eq_getElem (by omega)
          rw [rg_at (by omega) g1, rg_at (by omega) g2]
          exact hsame h (List.mem_append_left _ hh) X (List.mem_append_right _ (List.mem_singleton.mpr rfl)) (pn - 1) _ _ (by omega) g1 g2
      · exact ⟨_, _, _, _, vs, Ls, d, L, rfl, k012, W12, G, z3, eL, Nat.max_eq_left o.deep⟩
    · obtain ⟨y6, y7, y8, n', vs2, Ls', d', L', rfl, k13, W13, G', z3', eL', ed⟩ := hm
      obtain ⟨v13, L13, ev13, eL13, hL13, _⟩ := W13.log_at z3' r0 r1
      rw [eL'] at eL13
      cases Option.some.inj eL13
      refine ⟨_, rfl, _, rfl, _, rfl, lA, vs2, r, v13, rfl, rfl, W13.logs, at_of (nat_of r0).symm ev13, L', hL13, _, _, rfl, q_eq (congrArg V.int ?_) (q _ _ _ _ d' k13 W13 G' z3')⟩
      split <;> omega
end
end K7
namespace K7
open PySem PySem.Spec PyProof.Rows L2
/-! ### logs as data -/
def logD (L : Lo) : PyData := .tuple [.tuple [.int (L.P : Nat), .int (L.R : Nat), .tuple (L.M.map .int), .str (tS L.T)], .tuple (L.rows.map rowD)]
theorem LogAt.tp {H : Hp} {v : V} {L : Lo} (h : LogAt H v L) : Tp H v (logD L) := by
  obtain ⟨a, f, r, vs, rfl, h1, ⟨m, h2, h3⟩, h4, h5⟩ := h
  exact .tup h1 (.cons (.tup h2 (.cons (.int _) (.cons (.int _) (.cons (.tup h3 (ints_tps _)) (.cons (.str _) .nil))))) (.cons (.tup h4 (rows_tps h5)) .nil))
theorem logD_flat {L : Lo} (h : ∀ r ∈ L.rows, okD r.2) : flatD 7 (logD L) :=
  flatD_tup (flatDs_cons (flatD_tup (flatDs_cons (flatD_int _ _) (flatDs_cons (flatD_int _ _) (flatDs_cons (flatD_tup (n := 4) (flatDs_map _ fun x _ => flatD_int _ x)) (flatDs_one (flatD_str _ (by cases L.T <;> decide +kernel)))))))
    (flatDs_one (flatD_tup (flatDs_map _ fun r m => rowD_flat (h r m)))))
theorem logs_tps {H : Hp} : ∀ {vs : List V} {Ls : List Lo}, Paired (LogAt H) vs Ls → Tps H vs (Ls.map logD)
  | _, _, .nil => .nil
  | _, _, .cons h t => .cons h.tp (logs_tps t)
theorem any_none (Ls : List Lo) : ((Ls.map logD).any fun z => PyData.eqv z .none) = false := by
  rw [List.any_eq_false]
  intro x hx
  obtain ⟨L, _, rfl⟩ := List.mem_map.mp hx
  simp [logD, PyData.eqv]
/-- the rows of a log that is kept are rows -/
theorem log_oks {M0 : List Int} {k d : Nat} {hs : List (List Rw)} {Ls : List Lo} (g : Good okD M0 k hs d Ls) {L : Lo} (m : L ∈ Ls) : (∀ r ∈ L.rows, okD r.2) ∧ L.last ≤ k := by
  obtain ⟨X, o, q⟩ := g.logs L m
  refine ⟨fun r hr => ?_, by rw [o.rep.last]; exact o.len⟩
  rw [o.rep.rows] at hr
  exact q r (List.mem_of_mem_drop hr)
theorem units65 {k : Nat} {A : Around} (r : Room k A) : A.units + 65 < cLine := by
  have := r.un
  omega
/-- the next cell's draws -/
theorem Wd.next {H H' : Hp} {s s' lA hA : Addr} {n : Nat} {vs : List V} {as : List Addr} {Ls : List Lo} {hs : List (List Rw)} (W : Wd H s lA hA n vs as Ls hs) (k : Same H H') (f : H s' = none) (st : StreamAt H' s' 0) : Wd H' s' lA hA 0 vs as Ls hs := by
  have W' := W.same k
  obtain ⟨_, f1, f2⟩ := W.fresh f
  refine ⟨st, W'.logs, W'.log, W'.heads, fun b hb => ⟨fun z => ?_, (W.off b hb).2⟩, f1, f2, W.d3⟩
  obtain ⟨i, hi, e⟩ := List.getElem_of_mem hb
  obtain ⟨h, _, ⟨ws, e2, _⟩⟩ := pd_left W.heads.each (List.getElem?_eq_getElem hi)
  rw [e, z, f] at e2
  cases e2
section
variable {P : Program} {w : World} {K : PySem.W.Frag} {mg : Str → Option Value} {base : Heap} {f : Addr} {fd : FuncData}
def sp_law (K : PySem.W.Frag) : Sp := fun vs H Q _ => ∃ (a : Addr) (ns : List Int), vs = [.ref a] ∧ SqL K H a (ns.map V.int) ∧ ns.length ≤ 63 ∧ ∀ H', Q (.bl true) H'
theorem ok_law (T : Txt K mg) (F : Fun K "law" "law" s_law f fd) : FnOk P w K mg base CX0 9 f fd ["_law_script"] (sp_law K) := by
  obtain ⟨f1, d1, D1⟩ := T.d_l_stream
  obtain ⟨f2, d2, D2⟩ := T.d_l_members_by
  obtain ⟨f3, d3, D3⟩ := T.d_first_fold
  obtain ⟨f4, d4, D4⟩ := T.d_l_take
  obtain ⟨f5, d5, D5⟩ := T.d_l_head_deed
  obtain ⟨f6, d6, D6⟩ := T.d_l_sent
  obtain ⟨f7, d7, D7⟩ := T.d_l_fold_deed
  obtain ⟨f8, d8, D8⟩ := T.d_l_match
  refine F.ok sc_law (fun vs H Q E h => ?_) (fun cdv A outer s H vs Q E hr h => ?_)
  · obtain ⟨a, ns, rfl, _⟩ := h
    rfl
  · obtain ⟨a, ns, rfl, ha, hz, q⟩ := h
    refine ⟨_, pss_cons (ps_set (i := 1) sc_law.nd rfl (.inl rfl) (cl D1 (ok_stream T D1.fn) (hr.mono (by decide)) (pa_cons (pv 0) (pa_cons (pe_ix ix_list (pe_op op_catL (pe_lst (pa_cons pe_int pa_nil)) (pv 0)) (pe_un un_neg pe_int) (fun _ _ => rfl)) (pa_cons pe_int pa_nil)))))
      (pss_cons (ps_set (i := 2) sc_law.nd rfl (.inl rfl) (cl D3 (ok_first_fold T D3.fn) (hr.mono (by decide)) (pa_cons (cl D2 (ok_members_by T D2.fn) (hr.mono (by decide)) (pa_cons (pv 1) pa_nil)) (pa_cons pe_str pa_nil))))
      (pss_cons (ps_set (i := 3) sc_law.nd rfl (.inr rfl) (pe_lst (pa_cons (pe_tup (pa_cons (pv 2) (pa_cons (pe_tup pa_nil) pa_nil))) (pa_cons (pe_tup (pa_cons (pv 2) (pa_cons (pe_tup pa_nil) pa_nil))) (pa_cons (pe_tup (pa_cons (pv 2) (pa_cons (pe_tup pa_nil) pa_nil))) pa_nil)))))
      (pss_cons (ps_set (i := 4) sc_law.nd rfl (.inl rfl) (pe_lst pa_nil))
      (pss_cons (ps_set (i := 5) sc_law.nd rfl (.inl rfl) pe_int)
      (pss_cons (ps_for PassesOwn.never rfl (pi_enum (by rfl) T.n_enumerate (pa_cons (pe_slice sl_list (pv 0) po_none (po_some pe_int)) pa_nil)) (pg_tup rfl (pgs_cons (pg_name (i := 6) sc_law.nd rfl (.inl rfl)) (pgs_cons (pg_name (i := 7) sc_law.nd rfl (.inl rfl)) pgs_nil)))
        (pss_cons (ps_set (i := 1) sc_law.nd rfl (.inl rfl) (cl D1 (ok_stream T D1.fn) (hr.mono (by decide)) (pa_cons (pv 0) (pa_cons (pv 7) (pa_cons (pv 6) pa_nil)))))
        (pss_cons (ps_set (i := 8) sc_law.nd rfl (.inl rfl) (cl D4 (ok_take T D4.fn) (hr.mono (by decide)) (pa_cons (pv 1) (pa_cons pe_int pa_nil))))
        (C8.pss_cut (ps_if (PW.pt (pw_or (pt_cmpR op_lt (pv 8) pe_int (nomark _)) (pw_or1 (pt_cmpR (op_eqF hr.units) (pv 4) (pe_lst pa_nil) (nomark _)))))
          (pss_one (ps_expr (cl D5 (ok_head_deed T D5.fn) (hr.mono (by decide)) (pa_cons (pv 1) (pa_cons (pv 3) (pa_cons (pv 4) (pa_cons (pv 5) pa_nil)))))))
          (pss_one (ps_if (pt_cmpR op_lt (pv 8) pe_int (nomark _)) (pss_one (ps_expr (cl D6 (ok_sent T D6.fn) (hr.mono (by decide)) (pa_cons (pv 1) (pa_cons (pv 3) (pa_cons (pv 4) pa_nil))))))
            (pss_one (ps_set (i := 5) sc_law.nd rfl (.inl rfl) (cl D7 (ok_fold_deed T D7.fn) (hr.mono (by decide)) (pa_cons (pv 1) (pa_cons (pv 3) (pa_cons (pv 4) (pa_cons (pv 5) pa_nil))))))))))
        (pss_cons (ps_if (pt_cmpR (op_inD (units65 hr)) pe_non (pv 3) (by rfl)) (pss_one (ps_ret pe_bl)) pss_nil)
        (pss_one (ps_if (pt_not (pt_val (pe_callB (cr_all rfl) (by rfl) T.n_all (by decide +kernel) (pa_cons
          (pe_lc (own := [("_law_j", 9)]) (g := gName 9) (tt := tYes) rfl sc_law.nd (pi_range1 (by rfl) T.n_range (pa_cons pe_int pa_nil)) (blkOk_by (N := N_law) (sc := defScope s_law) (by decide +kernel)) (fun _ _ _ _ _ => pg_name (i := 9) sc_law.nd rfl (Or.inl rfl)) (fun _ _ _ _ _ => pts_nil)
            (fun _ _ _ _ _ => cl D8 (ok_match T D8.fn) (hr.mono (by decide)) (pa_cons (pe_ix ix_lm (pv 3) (pv 9) (fun _ _ => rfl)) (pa_cons (pe_ix ix_lm (pv 3) (pe_op op_mod (pe_op op_add (pv 9) pe_int) pe_int) (fun _ _ => rfl)) pa_nil)))) pa_nil)))) (pss_one (ps_ret pe_bl)) pss_nil)))))))
      (pss_one (ps_ret pe_bl))))))), ?_⟩
    -- the first fold
    have e0 : atI ([V.int 0] ++ ns.map V.int) (-1) = some (.int ((0 :: ns).getLast (List.cons_ne_nil _ _))) := by
      have hz : ([V.int 0] ++ ns.map V.int) = ((0 :: ns).dropLast.map V.int) ++ [.int ((0 :: ns).getLast (List.cons_ne_nil _ _))] := by
        rw [← List.map_singleton (f := V.int) (a := (0 :: ns).getLast (List.cons_ne_nil _ _)), ← List.map_append, List.dropLast_concat_getLast]
        rfl
      rw [hz]
      exact atI_last _ _
    refine ⟨_, rfl, by show 1 ≤ sizeLine; decide, fun l0 nl0 => ?_⟩
    have s1 := new_ (o := .lst [.int 0]) nl0
    refine ⟨_, rfl, l0, a, _, _, rfl, rfl, SqL.of upd_same, s1.seq ha, size_small (by rw [List.length_map]; show 1 + ns.length ≤ 1000; omega), fun l1 nl1 => ?_⟩
    have s2 := s1.trans (new_ (o := .lst ([V.int 0] ++ ns.map V.int)) nl1)
    refine ⟨1, rfl, l1, _, -1, _, rfl, rfl, SqL.of upd_same, e0, ?_⟩
    refine ⟨_, _, _, rfl, by decide, by decide, fun H3 t s3 ft ht => ?_⟩
    have s03 := s2.trans s3
    refine ⟨_, rfl, t, 0, rfl, ht, by decide, fun H4 m M0 k4 h4 hm gM => ?_⟩
    refine ⟨m, M0, false, rfl, hm, gM, fun H5 fo s5 hf => ?_⟩
    -- logs
    refine ⟨_, rfl, Nat.zero_le _, fun a1 na1 => ⟨by show 2 ≤ sizeLine; decide, fun b1 nb1 => ?_⟩⟩
    refine ⟨_, rfl, Nat.zero_le _, fun a2 na2 => ⟨by show 2 ≤ sizeLine; decide, fun b2 nb2 => ?_⟩⟩
    refine ⟨_, rfl, Nat.zero_le _, fun a3 na3 => ⟨by show 2 ≤ sizeLine; decide, fun b3 nb3 => ⟨by show 3 ≤ sizeLine; decide, fun lA nlA => ?_⟩⟩⟩
    have u1 := new_ (o := .tup []) na1
    have u2 := new_ (o := .tup [.ref fo, .ref a1]) nb1
    have u3 := new_ (o := .tup []) na2
    have u4 := new_ (o := .tup [.ref fo, .ref a2]) nb2
    have u5 := new_ (o := .tup []) na3
    have u6 := new_ (o := .tup [.ref fo, .ref a3]) nb3
    have u7 := new_ (o := .lst [.ref b1, .ref b2, .ref b3]) nlA
    have g1 : LogAt _ (.ref b1) ⟨0, 0, M0, false, []⟩ := ⟨b1, fo, a1, [], rfl, ((((u3.trans u4).trans u5).trans u6).trans u7) _ _ upd_same, hf.same ((((((u1.trans u2).trans u3).trans u4).trans u5).trans u6).trans u7), (((((u2.trans u3).trans u4).trans u5).trans u6).trans u7) _ _ upd_same, .nil⟩
    have g2 : LogAt _ (.ref b2) ⟨0, 0, M0, false, []⟩ := ⟨b2, fo, a2, [], rfl, ((u5.trans u6).trans u7) _ _ upd_same, hf.same ((((((u1.trans u2).trans u3).trans u4).trans u5).trans u6).trans u7), (((u4.trans u5).trans u6).trans u7) _ _ upd_same, .nil⟩
    have g3 : LogAt _ (.ref b3) ⟨0, 0, M0, false, []⟩ := ⟨b3, fo, a3, [], rfl, u7 _ _ upd_same, hf.same ((((((u1.trans u2).trans u3).trans u4).trans u5).trans u6).trans u7), (u6.trans u7) _ _ upd_same, .nil⟩
    have s57 := s5.trans ((((((u1.trans u2).trans u3).trans u4).trans u5).trans u6).trans u7)
    have fA := free_back (s5.trans (((((u1.trans u2).trans u3).trans u4).trans u5).trans u6)) nlA
    have eA : upd (upd (upd (upd (upd (upd (upd H5 a1 (.tup [])) b1 (.tup [.ref fo, .ref a1])) a2 (.tup [])) b2 (.tup [.ref fo, .ref a2])) a3 (.tup [])) b3 (.tup [.ref fo, .ref a3])) lA (.lst [.ref b1, .ref b2, .ref b3]) lA = some (.lst [.ref b1, .ref b2, .ref b3]) := upd_same
    generalize upd (upd (upd (upd (upd (upd (upd H5 a1 (.tup [])) b1 (.tup [.ref fo, .ref a1])) a2 (.tup [])) b2 (.tup [.ref fo, .ref a2])) a3 (.tup [])) b3 (.tup [.ref fo, .ref a3])) lA (.lst [.ref b1, .ref b2, .ref b3]) = H7 at g1 g2 g3 s57 eA ⊢
    refine ⟨Nat.zero_le _, fun hA nhA => ?_⟩
    have s8 := new_ (o := .lst []) nhA
    have ht8 : StreamAt (upd H7 hA (.lst [])) t 8 := h4.same (s57.trans s8)
    have dtA : t ≠ lA := fun z => by
      obtain ⟨_, _, _, _, e, _⟩ := h4
      rw [z, fA] at e
      cases e
    have dthA : t ≠ hA := fun z => by
      obtain ⟨_, _, _, _, e, _⟩ := h4.same s57
      rw [z, nhA] at e
      cases e
    have W8 : Wd (upd H7 hA (.lst [])) t lA hA 8 [.ref b1, .ref b2, .ref b3] [] [⟨0, 0, M0, false, []⟩, ⟨0, 0, M0, false, []⟩, ⟨0, 0, M0, false, []⟩] [] :=
      ⟨ht8, s8 _ _ eA, .cons (g1.same s8) (.cons (g2.same s8) (.cons (g3.same s8) .nil)), ⟨upd_same, .nil⟩, (fun _ h => nomatch h), dtA, dthA, ne_of_none eA nhA⟩
    have G0 : Good okD M0 0 [] 0 [(⟨0, 0, M0, false, []⟩ : Lo), ⟨0, 0, M0, false, []⟩, ⟨0, 0, M0, false, []⟩] := Good.start false 3
    have k08 : Kp [t] H3 (upd H7 hA (.lst [])) := k4.trans (.of (s57.trans s8))
    -- script[:63]
    have ha3 : SqL K H3 a (ns.map V.int) := s03.seq ha
    have ha8 : SqL K (upd H7 hA (.lst [])) a (ns.map V.int) := by
      rcases ha with (h | ⟨o, h⟩) | h
      · refine .inl (.inl (k08.lst _ _ ?_ (s03 _ _ h)))
        intro z
        rw [List.mem_singleton.mp z] at h
        rw [s2 _ _ h] at ft
        cases ft
      · exact .inl (.inr ⟨o, k08.frz _ _ _ (s03 _ _ h)⟩)
      · exact .inr h
    refine ⟨_, rfl, 63, rfl, a, _, rfl, ha8, fun c nc => ?_⟩
    have ec : cutV (ns.map V.int) none (some 63) = (ns.take 63).map V.int := by
      rw [List.take_of_length_le hz]
      unfold cutV
      rw [HT.sIx_none, show (63 : Int) = ((63 : Nat) : Int) from rfl, HT.sIx_nat, List.drop_zero, Nat.sub_zero, List.take_of_length_le (by rw [List.length_map]; omega)]
    rw [ec]
    have s9 := new_ (o := .lst ((ns.take 63).map V.int)) nc
    have W9 := W8.same s9
    obtain ⟨c1, c2, c3⟩ := W8.fresh nc
    refine ⟨c, _, rfl, SqL.of upd_same, for_it (walk_enum (xs := (ns.take 63).map V.int)) (fun i σ H1 => ∃ (t' : Addr) (y6 y7 y8 : Option V) (n' d : Nat) (vs : List V) (as : List Addr) (Ls : List Lo) (hs : List (List Rw)),
        σ = [some (.ref a), some (.ref t'), some (.ref fo), some (.ref lA), some (.ref hA), some (.int (d : Nat)), y6, y7, y8, none] ∧ H1 c = some (.lst ((ns.take 63).map V.int)) ∧ Wd H1 t' lA hA n' vs as Ls hs ∧ Good okD M0 i hs d Ls ∧ Ls.length = 3)
      ⟨t, none, none, none, _, 0, _, _, _, _, rfl, upd_same, W9, G0, rfl⟩ (fun i σ H1 _ p => ?_) (fun i x σ H1 H1' hi p y => ?_) (fun σ H1 p => ?_)⟩
    · obtain ⟨_, _, _, _, _, _, _, _, _, _, _, hc, _⟩ := p
      exact SqL.of hc
    · obtain ⟨t', y6, y7, y8, n', d, vs, as, Ls, hs, rfl, hc, W, G, z3⟩ := p
      obtain ⟨T, u, v, rfl, nT, rfl, hu, hv⟩ := y
      cases Option.some.inj hu
      have hi' : i < 63 := by
        rw [List.length_map, List.length_take] at hi
        omega
      have hv' : ((ns.take 63).map V.int)[i]? = some v := hv
      rw [List.getElem?_map] at hv'
      obtain ⟨cell, _, rfl⟩ := Option.map_eq_some_iff.mp hv'
      have sT := new_ (o := .tup [.int (i : Nat), .int cell]) nT
      refine ⟨T, _, rfl, SqT.of upd_same, rfl, _, _, rfl, _, _, rfl, rfl, ?_⟩
      refine ⟨_, rfl, _, rfl, _, rfl, _, _, _, rfl, by omega, by omega, fun H2 t2 s2' ft2 ht2 => ?_⟩
      have W2 := (W.same sT).next s2' ft2 ht2
      have hc2 := s2' _ _ (sT _ _ hc)
      refine ⟨_, rfl, t2, _, 8, rfl, W2.st, by omega, by decide, by decide, fun kind H3' _ _ k3 h3 => ?_⟩
      have W3 := W2.kp k3 h3
      have ct2 : c ≠ t2 := fun z => by
        rw [← z] at ft2
        rw [sT _ _ hc] at ft2
        cases ft2
      have hc3 := k3.lst _ _ (by simpa using ct2) hc2
      have cA : c ≠ lA := c2
      have chA : c ≠ hA := c3
      have keep : ∀ {H4 : Hp}, Kp [t2, lA, hA] H3' H4 → H4 c = some (.lst ((ns.take 63).map V.int)) := fun kk => kk.lst _ _ (by simp [ct2, cA, chA]) hc3
      refine ⟨fun σ4 H4 => ∃ (n4 d4 : Nat) (vs4 : List V) (as4 : List Addr) (Ls4 : List Lo) (hs4 : List (List Rw)), σ4 = [some (.ref a), some (.ref t2), some (.ref fo), some (.ref lA), some (.ref hA), some (.int (d4 : Nat)), some (.int (i : Nat)), some (.int cell), some (.int kind), none] ∧
        H4 c = some (.lst ((ns.take 63).map V.int)) ∧ Wd H4 t2 lA hA n4 vs4 as4 Ls4 hs4 ∧ Good okD M0 (i + 1) hs4 d4 Ls4 ∧ Ls4.length = 3, ?_, fun σ4 H4 hm4 => ?_⟩
      · have headD' : ∀ {H4 : Hp}, Same H3' H4 → ∀ {R : Hp → Prop}, (∀ H5 n5 vs5 as5 Ls5 hs5, H5 c = some (.lst ((ns.take 63).map V.int)) → Wd H5 t2 lA hA n5 vs5 as5 Ls5 hs5 → Good okD M0 (i + 1) hs5 d Ls5 → Ls5.length = 3 → R H5) →
            sp_head_deed [.ref t2, .ref lA, .ref hA, .int (d : Nat)] H4 (fun _ H5 => R H5) E0 := fun {H4} s4 {R} hR =>
          ⟨t2, lA, hA, d, _, i, vs, as, Ls, hs, M0, rfl, W3.same s4, G, z3, by omega, by omega, fun H5 n5 vs5 as5 Ls5 hs5 kk W5 G5 z5 => hR H5 n5 vs5 as5 Ls5 hs5 (keep ((Kp.of s4).trans kk)) W5 G5 z5⟩
        refine ⟨_, rfl, _, _, rfl, rfl, _, rfl, ite2 (fun _ => ?_) (fun _ => ?_)⟩
        · refine ⟨_, rfl, _, rfl, _, rfl, _, rfl, headD' (Same.refl _) fun H5 n5 vs5 as5 Ls5 hs5 hc5 W5 G5 z5 => ⟨n5, d, vs5, as5, Ls5, hs5, rfl, hc5, W5, G5, z5⟩⟩
        refine ⟨_, rfl, Nat.zero_le _, fun e ne => ?_⟩
        have s4 := new_ (o := .lst []) ne
        have W4 := W3.same s4
        refine ⟨_, _, fun K => W4.heads.dp, fun K => .lst (SqL.of upd_same) .nil, flatD_shaped (heads_flat G.oks), flatD_shaped (flatD_lst (flatDs_nil 0)), ?_⟩
        by_cases eh : hs = []
        · refine ⟨true, congrArg V.bl (by rw [eqv_nil, eh]; rfl), iteT ?_⟩
          refine ⟨_, rfl, _, rfl, _, rfl, _, rfl, headD' s4 fun H5 n5 vs5 as5 Ls5 hs5 hc5 W5 G5 z5 => ⟨n5, d, vs5, as5, Ls5, hs5, rfl, hc5, W5, G5, z5⟩⟩
        refine ⟨false, congrArg V.bl (by rw [eqv_nil]; cases hs; exact absurd rfl eh; rfl), iteF ?_⟩
        refine ⟨_, rfl, _, _, rfl, rfl, _, rfl, ite2 (fun _ => ?_) (fun _ => ?_)⟩
        · refine ⟨_, rfl, _, rfl, _, rfl, t2, lA, hA, d, _, i, vs, as, Ls, hs, M0, rfl, W4, G, z3, eh, by omega, by omega, fun H5 n5 vs5 Ls5 kk W5 G5 z5 => ?_⟩
          exact ⟨n5, d, vs5, as, Ls5, hs, rfl, keep ((Kp.of s4).trans kk), W5, G5.mono (Nat.le_succ _), z5⟩
        · refine ⟨_, rfl, _, rfl, _, rfl, _, rfl, t2, lA, hA, d, _, i, vs, as, Ls, hs, M0, rfl, W4, G, z3, gM, by omega, by omega, fun H5 n5 vs5 Ls5 d5 kk W5 G5 z5 => ?_⟩
          exact ⟨n5, d5, vs5, as, Ls5, hs, rfl, keep ((Kp.of s4).trans kk), W5, G5.mono (Nat.le_succ _), z5⟩
      · obtain ⟨n4, d4, vs4, as4, Ls4, hs4, rfl, hc4, W4, G4, z4⟩ := hm4
        -- None in logs
        refine ⟨_, rfl, .none, Ls4.map logD, .non, .lst (SqL.of W4.logs) (logs_tps W4.log).dp, by decide +kernel, flatD_shaped (flatD_lst (flatDs_map Ls4 fun L m => logD_flat (log_oks G4 m).1)), false, congrArg V.bl (any_none Ls4), iteF ?_⟩
        -- all([..])
        refine ⟨3, rfl, by decide, by decide, fun D nD => lc_yes (walk_range (lo := 0) (n := (3 : Int).toNat)) (fun m H5 => Same H4 H5 ∧ H5 D = some (.lst ((List.replicate m true).map V.bl))) ⟨new_ nD, upd_same⟩ (fun _ _ _ _ => trivial) (fun m x H5 H5' hm p y => ?_) (fun H5 p => ?_)⟩
        · obtain ⟨rfl, rfl⟩ := y
          have hm3 : m < 3 := hm
          obtain ⟨s5', hD⟩ := p
          have W5 := W4.same s5'
          obtain ⟨v1, L1, ev1, _, hL1, m1⟩ := W5.log_at z4 (r := ((m : Nat) : Int)) (by omega) (by omega)
          obtain ⟨j, hj⟩ : ∃ j, j = (m + 1) % 3 := ⟨_, rfl⟩
          obtain ⟨v2, L2, ev2, _, hL2, m2⟩ := W5.log_at z4 (r := ((j : Nat) : Int)) (by omega) (by omega)
          obtain ⟨o1, z1⟩ := log_oks G4 m1
          obtain ⟨_, z2⟩ := log_oks G4 m2
          refine ⟨rfl, ?_⟩
          refine ⟨_, rfl, _, rfl, lA, vs4, _, v1, rfl, rfl, W5.logs, at_of (j := m) (by omega) (by simpa using ev1), ?_⟩
          refine ⟨_, rfl, _, rfl, _, _, rfl, rfl, _, _, rfl, rfl, (by show (0 : Int) < 3; decide), lA, vs4, _, v2, rfl, rfl, W5.logs, at_of (j := j) (by omega) (by simpa using ev2), ?_⟩
          refine ⟨v1, v2, L1, L2, rfl, hL1, hL2, G4.agree m1 m2, o1, by omega, by omega, fun H6 s6 => ?_⟩
          refine ⟨_, s6 _ _ hD, ?_, ?_⟩
          · rw [List.length_map, List.length_replicate]
            exact size_lt (by omega)
          · refine ⟨same_mut (s5'.trans s6) nD, ?_⟩
            rw [upd_same, List.replicate_succ', List.map_append]
            rfl
        · obtain ⟨s5', hD⟩ := p
          refine ⟨D, _, rfl, SqL.of hD, true, congrArg V.bl ?_, iteF ?_⟩
          · rw [List.all_replicate]
            simp
          · exact ⟨t2, _, _, _, n4, d4, vs4, as4, Ls4, hs4, rfl, s5' _ _ hc4, W4.same s5', G4, z4⟩
    · exact q H1
end
end K7
/-! ### the end: every def found, the law called -/
namespace K7
open PySem PySem.Spec PyProof.Rows L2
theorem all_mk {l : PySem.W.OpenLaw} {w : World} {K : PySem.W.Frag} {h : Heap} {mg : Str → Option Value} {fa : Addr} (X : K.In h) (G : h.Ns mainGlobals mg) (hfa : mg "law" = some (.ref fa))
    {f0 : Addr} {od0 an0 : Option Addr} {sl0 : Array (Option Value)} {oc0 kV0 dc0 pm0 cd0 ct0 : Value}
    {f1 : Addr} {od1 an1 : Option Addr} {sl1 : Array (Option Value)} {oc1 kV1 dc1 pm1 cd1 ct1 : Value}
    {f2 : Addr} {od2 an2 : Option Addr} {sl2 : Array (Option Value)} {oc2 kV2 dc2 pm2 cd2 ct2 : Value}
    {f3 : Addr} {od3 an3 : Option Addr} {sl3 : Array (Option Value)} {oc3 kV3 dc3 pm3 cd3 ct3 : Value}
    {f4 : Addr} {od4 an4 : Option Addr} {sl4 : Array (Option Value)} {oc4 kV4 dc4 pm4 cd4 ct4 : Value}
    {f5 : Addr} {od5 an5 : Option Addr} {sl5 : Array (Option Value)} {oc5 kV5 dc5 pm5 cd5 ct5 : Value}
    {f6 : Addr} {od6 an6 : Option Addr} {sl6 : Array (Option Value)} {oc6 kV6 dc6 pm6 cd6 ct6 : Value}
    {f7 : Addr} {od7 an7 : Option Addr} {sl7 : Array (Option Value)} {oc7 kV7 dc7 pm7 cd7 ct7 : Value}
    {f8 : Addr} {od8 an8 : Option Addr} {sl8 : Array (Option Value)} {oc8 kV8 dc8 pm8 cd8 ct8 : Value}
    {f9 : Addr} {od9 an9 : Option Addr} {sl9 : Array (Option Value)} {oc9 kV9 dc9 pm9 cd9 ct9 : Value}
    {f10 : Addr} {od10 an10 : Option Addr} {sl10 : Array (Option Value)} {oc10 kV10 dc10 pm10 cd10 ct10 : Value}
    {f11 : Addr} {od11 an11 : Option Addr} {sl11 : Array (Option Value)} {oc11 kV11 dc11 pm11 cd11 ct11 : Value}
    {f12 : Addr} {od12 an12 : Option Addr} {sl12 : Array (Option Value)} {oc12 kV12 dc12 pm12 cd12 ct12 : Value}
    {f13 : Addr} {od13 an13 : Option Addr} {sl13 : Array (Option Value)} {oc13 kV13 dc13 pm13 cd13 ct13 : Value}
    {f14 : Addr} {od14 an14 : Option Addr} {sl14 : Array (Option Value)} {oc14 kV14 dc14 pm14 cd14 ct14 : Value}
    {f15 : Addr} {od15 an15 : Option Addr} {sl15 : Array (Option Value)} {oc15 kV15 dc15 pm15 cd15 ct15 : Value}
    {f16 : Addr} {od16 an16 : Option Addr} {sl16 : Array (Option Value)} {oc16 kV16 dc16 pm16 cd16 ct16 : Value}
    {f17 : Addr} {od17 an17 : Option Addr} {sl17 : Array (Option Value)} {oc17 kV17 dc17 pm17 cd17 ct17 : Value}
    {f18 : Addr} {od18 an18 : Option Addr} {sl18 : Array (Option Value)} {oc18 kV18 dc18 pm18 cd18 ct18 : Value}
    {f19 : Addr} {od19 an19 : Option Addr} {sl19 : Array (Option Value)} {oc19 kV19 dc19 pm19 cd19 ct19 : Value}
    {f20 : Addr} {od20 an20 : Option Addr} {sl20 : Array (Option Value)} {oc20 kV20 dc20 pm20 cd20 ct20 : Value}
    {f21 : Addr} {od21 an21 : Option Addr} {sl21 : Array (Option Value)} {oc21 kV21 dc21 pm21 cd21 ct21 : Value}
    {f22 : Addr} {od22 an22 : Option Addr} {sl22 : Array (Option Value)} {oc22 kV22 dc22 pm22 cd22 ct22 : Value}
    {f23 : Addr} {od23 an23 : Option Addr} {sl23 : Array (Option Value)} {oc23 kV23 dc23 pm23 cd23 ct23 : Value}
    {f24 : Addr} {od24 an24 : Option Addr} {sl24 : Array (Option Value)} {oc24 kV24 dc24 pm24 cd24 ct24 : Value}
    {f25 : Addr} {od25 an25 : Option Addr} {sl25 : Array (Option Value)} {oc25 kV25 dc25 pm25 cd25 ct25 : Value}
    {f26 : Addr} {od26 an26 : Option Addr} {sl26 : Array (Option Value)} {oc26 kV26 dc26 pm26 cd26 ct26 : Value}
    {f27 : Addr} {od27 an27 : Option Addr} {sl27 : Array (Option Value)} {oc27 kV27 dc27 pm27 cd27 ct27 : Value}
    {f28 : Addr} {od28 an28 : Option Addr} {sl28 : Array (Option Value)} {oc28 kV28 dc28 pm28 cd28 ct28 : Value}
    {f29 : Addr} {od29 an29 : Option Addr} {sl29 : Array (Option Value)} {oc29 kV29 dc29 pm29 cd29 ct29 : Value}
    {f30 : Addr} {od30 an30 : Option Addr} {sl30 : Array (Option Value)} {oc30 kV30 dc30 pm30 cd30 ct30 : Value}
    {f31 : Addr} {od31 an31 : Option Addr} {sl31 : Array (Option Value)} {oc31 kV31 dc31 pm31 cd31 ct31 : Value}
    (a0 : PySem.W.nsIn K mainGlobals "is_whole" = some (some (.ref f0))) (l0 : K.lookup f0 = some ⟨oc0, od0, .func (PySem.W.fnOf "is_whole" "is_whole" (defArgs s_is_whole) (defBody s_is_whole) (defScope s_is_whole) .none kV0 dc0 pm0 an0 cd0 ct0), sl0⟩) (c0 : PySem.W.codeIn K cd0 "is_whole" = true) (k0 : PySem.W.keepIn K (.ref f0) = true)
    (a1 : PySem.W.nsIn K mainGlobals "is_among" = some (some (.ref f1))) (l1 : K.lookup f1 = some ⟨oc1, od1, .func (PySem.W.fnOf "is_among" "is_among" (defArgs s_is_among) (defBody s_is_among) (defScope s_is_among) .none kV1 dc1 pm1 an1 cd1 ct1), sl1⟩) (c1 : PySem.W.codeIn K cd1 "is_among" = true) (k1 : PySem.W.keepIn K (.ref f1) = true)
    (a2 : PySem.W.nsIn K mainGlobals "are_members" = some (some (.ref f2))) (l2 : K.lookup f2 = some ⟨oc2, od2, .func (PySem.W.fnOf "are_members" "are_members" (defArgs s_are_members) (defBody s_are_members) (defScope s_are_members) .none kV2 dc2 pm2 an2 cd2 ct2), sl2⟩) (c2 : PySem.W.codeIn K cd2 "are_members" = true) (k2 : PySem.W.keepIn K (.ref f2) = true)
    (a3 : PySem.W.nsIn K mainGlobals "need_members" = some (some (.ref f3))) (l3 : K.lookup f3 = some ⟨oc3, od3, .func (PySem.W.fnOf "need_members" "need_members" (defArgs s_need_members) (defBody s_need_members) (defScope s_need_members) .none kV3 dc3 pm3 an3 cd3 ct3), sl3⟩) (c3 : PySem.W.codeIn K cd3 "need_members" = true) (k3 : PySem.W.keepIn K (.ref f3) = true)
    (a4 : PySem.W.nsIn K mainGlobals "is_told" = some (some (.ref f4))) (l4 : K.lookup f4 = some ⟨oc4, od4, .func (PySem.W.fnOf "is_told" "is_told" (defArgs s_is_told) (defBody s_is_told) (defScope s_is_told) .none kV4 dc4 pm4 an4 cd4 ct4), sl4⟩) (c4 : PySem.W.codeIn K cd4 "is_told" = true) (k4 : PySem.W.keepIn K (.ref f4) = true)
    (a5 : PySem.W.nsIn K mainGlobals "is_fold" = some (some (.ref f5))) (l5 : K.lookup f5 = some ⟨oc5, od5, .func (PySem.W.fnOf "is_fold" "is_fold" (defArgs s_is_fold) (defBody s_is_fold) (defScope s_is_fold) .none kV5 dc5 pm5 an5 cd5 ct5), sl5⟩) (c5 : PySem.W.codeIn K cd5 "is_fold" = true) (k5 : PySem.W.keepIn K (.ref f5) = true)
    (a6 : PySem.W.nsIn K mainGlobals "need_fold" = some (some (.ref f6))) (l6 : K.lookup f6 = some ⟨oc6, od6, .func (PySem.W.fnOf "need_fold" "need_fold" (defArgs s_need_fold) (defBody s_need_fold) (defScope s_need_fold) .none kV6 dc6 pm6 an6 cd6 ct6), sl6⟩) (c6 : PySem.W.codeIn K cd6 "need_fold" = true) (k6 : PySem.W.keepIn K (.ref f6) = true)
    (a7 : PySem.W.nsIn K mainGlobals "first_fold" = some (some (.ref f7))) (l7 : K.lookup f7 = some ⟨oc7, od7, .func (PySem.W.fnOf "first_fold" "first_fold" (defArgs s_first_fold) (defBody s_first_fold) (defScope s_first_fold) .none kV7 dc7 pm7 an7 cd7 ct7), sl7⟩) (c7 : PySem.W.codeIn K cd7 "first_fold" = true) (k7 : PySem.W.keepIn K (.ref f7) = true)
    (a8 : PySem.W.nsIn K mainGlobals "last" = some (some (.ref f8))) (l8 : K.lookup f8 = some ⟨oc8, od8, .func (PySem.W.fnOf "last" "last" (defArgs s_last) (defBody s_last) (defScope s_last) .none kV8 dc8 pm8 an8 cd8 ct8), sl8⟩) (c8 : PySem.W.codeIn K cd8 "last" = true) (k8 : PySem.W.keepIn K (.ref f8) = true)
    (a9 : PySem.W.nsIn K mainGlobals "has_row" = some (some (.ref f9))) (l9 : K.lookup f9 = some ⟨oc9, od9, .func (PySem.W.fnOf "has_row" "has_row" (defArgs s_has_row) (defBody s_has_row) (defScope s_has_row) .none kV9 dc9 pm9 an9 cd9 ct9), sl9⟩) (c9 : PySem.W.codeIn K cd9 "has_row" = true) (k9 : PySem.W.keepIn K (.ref f9) = true)
    (a10 : PySem.W.nsIn K mainGlobals "reign_at" = some (some (.ref f10))) (l10 : K.lookup f10 = some ⟨oc10, od10, .func (PySem.W.fnOf "reign_at" "reign_at" (defArgs s_reign_at) (defBody s_reign_at) (defScope s_reign_at) .none kV10 dc10 pm10 an10 cd10 ct10), sl10⟩) (c10 : PySem.W.codeIn K cd10 "reign_at" = true) (k10 : PySem.W.keepIn K (.ref f10) = true)
    (a11 : PySem.W.nsIn K mainGlobals "row_at" = some (some (.ref f11))) (l11 : K.lookup f11 = some ⟨oc11, od11, .func (PySem.W.fnOf "row_at" "row_at" (defArgs s_row_at) (defBody s_row_at) (defScope s_row_at) .none kV11 dc11 pm11 an11 cd11 ct11), sl11⟩) (c11 : PySem.W.codeIn K cd11 "row_at" = true) (k11 : PySem.W.keepIn K (.ref f11) = true)
    (a12 : PySem.W.nsIn K mainGlobals "with_row" = some (some (.ref f12))) (l12 : K.lookup f12 = some ⟨oc12, od12, .func (PySem.W.fnOf "with_row" "with_row" (defArgs s_with_row) (defBody s_with_row) (defScope s_with_row) .none kV12 dc12 pm12 an12 cd12 ct12), sl12⟩) (c12 : PySem.W.codeIn K cd12 "with_row" = true) (k12 : PySem.W.keepIn K (.ref f12) = true)
    (a13 : PySem.W.nsIn K mainGlobals "put_rows" = some (some (.ref f13))) (l13 : K.lookup f13 = some ⟨oc13, od13, .func (PySem.W.fnOf "put_rows" "put_rows" (defArgs s_put_rows) (defBody s_put_rows) (defScope s_put_rows) .none kV13 dc13 pm13 an13 cd13 ct13), sl13⟩) (c13 : PySem.W.codeIn K cd13 "put_rows" = true) (k13 : PySem.W.keepIn K (.ref f13) = true)
    (a14 : PySem.W.nsIn K mainGlobals "members_at" = some (some (.ref f14))) (l14 : K.lookup f14 = some ⟨oc14, od14, .func (PySem.W.fnOf "members_at" "members_at" (defArgs s_members_at) (defBody s_members_at) (defScope s_members_at) .none kV14 dc14 pm14 an14 cd14 ct14), sl14⟩) (c14 : PySem.W.codeIn K cd14 "members_at" = true) (k14 : PySem.W.keepIn K (.ref f14) = true)
    (a15 : PySem.W.nsIn K mainGlobals "folded" = some (some (.ref f15))) (l15 : K.lookup f15 = some ⟨oc15, od15, .func (PySem.W.fnOf "folded" "folded" (defArgs s_folded) (defBody s_folded) (defScope s_folded) .none kV15 dc15 pm15 an15 cd15 ct15), sl15⟩) (c15 : PySem.W.codeIn K cd15 "folded" = true) (k15 : PySem.W.keepIn K (.ref f15) = true)
    (a16 : PySem.W.nsIn K mainGlobals "fold_taken" = some (some (.ref f16))) (l16 : K.lookup f16 = some ⟨oc16, od16, .func (PySem.W.fnOf "fold_taken" "fold_taken" (defArgs s_fold_taken) (defBody s_fold_taken) (defScope s_fold_taken) .none kV16 dc16 pm16 an16 cd16 ct16), sl16⟩) (c16 : PySem.W.codeIn K cd16 "fold_taken" = true) (k16 : PySem.W.keepIn K (.ref f16) = true)
    (a17 : PySem.W.nsIn K mainGlobals "_law_mixed" = some (some (.ref f17))) (l17 : K.lookup f17 = some ⟨oc17, od17, .func (PySem.W.fnOf "_law_mixed" "_law_mixed" (defArgs s_l_mixed) (defBody s_l_mixed) (defScope s_l_mixed) .none kV17 dc17 pm17 an17 cd17 ct17), sl17⟩) (c17 : PySem.W.codeIn K cd17 "_law_mixed" = true) (k17 : PySem.W.keepIn K (.ref f17) = true)
    (a18 : PySem.W.nsIn K mainGlobals "_law_stream" = some (some (.ref f18))) (l18 : K.lookup f18 = some ⟨oc18, od18, .func (PySem.W.fnOf "_law_stream" "_law_stream" (defArgs s_l_stream) (defBody s_l_stream) (defScope s_l_stream) .none kV18 dc18 pm18 an18 cd18 ct18), sl18⟩) (c18 : PySem.W.codeIn K cd18 "_law_stream" = true) (k18 : PySem.W.keepIn K (.ref f18) = true)
    (a19 : PySem.W.nsIn K mainGlobals "_law_take" = some (some (.ref f19))) (l19 : K.lookup f19 = some ⟨oc19, od19, .func (PySem.W.fnOf "_law_take" "_law_take" (defArgs s_l_take) (defBody s_l_take) (defScope s_l_take) .none kV19 dc19 pm19 an19 cd19 ct19), sl19⟩) (c19 : PySem.W.codeIn K cd19 "_law_take" = true) (k19 : PySem.W.keepIn K (.ref f19) = true)
    (a20 : PySem.W.nsIn K mainGlobals "_law_members_by" = some (some (.ref f20))) (l20 : K.lookup f20 = some ⟨oc20, od20, .func (PySem.W.fnOf "_law_members_by" "_law_members_by" (defArgs s_l_members_by) (defBody s_l_members_by) (defScope s_l_members_by) .none kV20 dc20 pm20 an20 cd20 ct20), sl20⟩) (c20 : PySem.W.codeIn K cd20 "_law_members_by" = true) (k20 : PySem.W.keepIn K (.ref f20) = true)
    (a21 : PySem.W.nsIn K mainGlobals "_law_value_by" = some (some (.ref f21))) (l21 : K.lookup f21 = some ⟨oc21, od21, .func (PySem.W.fnOf "_law_value_by" "_law_value_by" (defArgs s_l_value_by) (defBody s_l_value_by) (defScope s_l_value_by) .none kV21 dc21 pm21 an21 cd21 ct21), sl21⟩) (c21 : PySem.W.codeIn K cd21 "_law_value_by" = true) (k21 : PySem.W.keepIn K (.ref f21) = true)
    (a22 : PySem.W.nsIn K mainGlobals "_law_key_by" = some (some (.ref f22))) (l22 : K.lookup f22 = some ⟨oc22, od22, .func (PySem.W.fnOf "_law_key_by" "_law_key_by" (defArgs s_l_key_by) (defBody s_l_key_by) (defScope s_l_key_by) .none kV22 dc22 pm22 an22 cd22 ct22), sl22⟩) (c22 : PySem.W.codeIn K cd22 "_law_key_by" = true) (k22 : PySem.W.keepIn K (.ref f22) = true)
    (a23 : PySem.W.nsIn K mainGlobals "_law_ask_by" = some (some (.ref f23))) (l23 : K.lookup f23 = some ⟨oc23, od23, .func (PySem.W.fnOf "_law_ask_by" "_law_ask_by" (defArgs s_l_ask_by) (defBody s_l_ask_by) (defScope s_l_ask_by) .none kV23 dc23 pm23 an23 cd23 ct23), sl23⟩) (c23 : PySem.W.codeIn K cd23 "_law_ask_by" = true) (k23 : PySem.W.keepIn K (.ref f23) = true)
    (a24 : PySem.W.nsIn K mainGlobals "_law_deed_by" = some (some (.ref f24))) (l24 : K.lookup f24 = some ⟨oc24, od24, .func (PySem.W.fnOf "_law_deed_by" "_law_deed_by" (defArgs s_l_deed_by) (defBody s_l_deed_by) (defScope s_l_deed_by) .none kV24 dc24 pm24 an24 cd24 ct24), sl24⟩) (c24 : PySem.W.codeIn K cd24 "_law_deed_by" = true) (k24 : PySem.W.keepIn K (.ref f24) = true)
    (a25 : PySem.W.nsIn K mainGlobals "_law_match" = some (some (.ref f25))) (l25 : K.lookup f25 = some ⟨oc25, od25, .func (PySem.W.fnOf "_law_match" "_law_match" (defArgs s_l_match) (defBody s_l_match) (defScope s_l_match) .none kV25 dc25 pm25 an25 cd25 ct25), sl25⟩) (c25 : PySem.W.codeIn K cd25 "_law_match" = true) (k25 : PySem.W.keepIn K (.ref f25) = true)
    (a26 : PySem.W.nsIn K mainGlobals "_law_common" = some (some (.ref f26))) (l26 : K.lookup f26 = some ⟨oc26, od26, .func (PySem.W.fnOf "_law_common" "_law_common" (defArgs s_l_common) (defBody s_l_common) (defScope s_l_common) .none kV26 dc26 pm26 an26 cd26 ct26), sl26⟩) (c26 : PySem.W.codeIn K cd26 "_law_common" = true) (k26 : PySem.W.keepIn K (.ref f26) = true)
    (a27 : PySem.W.nsIn K mainGlobals "_law_head_deed" = some (some (.ref f27))) (l27 : K.lookup f27 = some ⟨oc27, od27, .func (PySem.W.fnOf "_law_head_deed" "_law_head_deed" (defArgs s_l_head_deed) (defBody s_l_head_deed) (defScope s_l_head_deed) .none kV27 dc27 pm27 an27 cd27 ct27), sl27⟩) (c27 : PySem.W.codeIn K cd27 "_law_head_deed" = true) (k27 : PySem.W.keepIn K (.ref f27) = true)
    (a28 : PySem.W.nsIn K mainGlobals "_law_all_rows" = some (some (.ref f28))) (l28 : K.lookup f28 = some ⟨oc28, od28, .func (PySem.W.fnOf "_law_all_rows" "_law_all_rows" (defArgs s_l_all_rows) (defBody s_l_all_rows) (defScope s_l_all_rows) .none kV28 dc28 pm28 an28 cd28 ct28), sl28⟩) (c28 : PySem.W.codeIn K cd28 "_law_all_rows" = true) (k28 : PySem.W.keepIn K (.ref f28) = true)
    (a29 : PySem.W.nsIn K mainGlobals "_law_sent" = some (some (.ref f29))) (l29 : K.lookup f29 = some ⟨oc29, od29, .func (PySem.W.fnOf "_law_sent" "_law_sent" (defArgs s_l_sent) (defBody s_l_sent) (defScope s_l_sent) .none kV29 dc29 pm29 an29 cd29 ct29), sl29⟩) (c29 : PySem.W.codeIn K cd29 "_law_sent" = true) (k29 : PySem.W.keepIn K (.ref f29) = true)
    (a30 : PySem.W.nsIn K mainGlobals "_law_fold_deed" = some (some (.ref f30))) (l30 : K.lookup f30 = some ⟨oc30, od30, .func (PySem.W.fnOf "_law_fold_deed" "_law_fold_deed" (defArgs s_l_fold_deed) (defBody s_l_fold_deed) (defScope s_l_fold_deed) .none kV30 dc30 pm30 an30 cd30 ct30), sl30⟩) (c30 : PySem.W.codeIn K cd30 "_law_fold_deed" = true) (k30 : PySem.W.keepIn K (.ref f30) = true)
    (a31 : PySem.W.nsIn K mainGlobals "law" = some (some (.ref f31))) (l31 : K.lookup f31 = some ⟨oc31, od31, .func (PySem.W.fnOf "law" "law" (defArgs s_law) (defBody s_law) (defScope s_law) .none kV31 dc31 pm31 an31 cd31 ct31), sl31⟩) (c31 : PySem.W.codeIn K cd31 "law" = true) (k31 : PySem.W.keepIn K (.ref f31) = true)
    (z_isinstance : PySem.W.nsIn K mainGlobals "isinstance" = some none)
    (z_int : PySem.W.nsIn K mainGlobals "int" = some none)
    (z_bool : PySem.W.nsIn K mainGlobals "bool" = some none)
    (z_tuple : PySem.W.nsIn K mainGlobals "tuple" = some none)
    (z_str : PySem.W.nsIn K mainGlobals "str" = some none)
    (z_len : PySem.W.nsIn K mainGlobals "len" = some none)
    (z_all : PySem.W.nsIn K mainGlobals "all" = some none)
    (z_zip : PySem.W.nsIn K mainGlobals "zip" = some none)
    (z_any : PySem.W.nsIn K mainGlobals "any" = some none)
    (z_enumerate : PySem.W.nsIn K mainGlobals "enumerate" = some none)
    (z_range : PySem.W.nsIn K mainGlobals "range" = some none)
    (z_list : PySem.W.nsIn K mainGlobals "list" = some none)
    (z_sorted : PySem.W.nsIn K mainGlobals "sorted" = some none)
    (z_max : PySem.W.nsIn K mainGlobals "max" = some none)
    (z_min : PySem.W.nsIn K mainGlobals "min" = some none)
    {t_MOST : Tok} (y_MOST : PySem.W.nsIn K mainGlobals "MOST" = some (some (.int 1000000 t_MOST)))
    {t_LAST_SCRIBE : Tok} (y_LAST_SCRIBE : PySem.W.nsIn K mainGlobals "LAST_SCRIBE" = some (some (.int 8 t_LAST_SCRIBE)))
    {t_MOST_MEMBERS : Tok} (y_MOST_MEMBERS : PySem.W.nsIn K mainGlobals "MOST_MEMBERS" = some (some (.int 7 t_MOST_MEMBERS)))
    : ∃ fd : FuncData, (∀ (s : Shared) (v : Value), BindsTo s fd ⟨[v], []⟩ [("_law_script", v)]) ∧ ∀ base : Heap, K.In base → base.Ns mainGlobals mg → FnOk l.prog w K mg base CX0 9 fa fd ["_law_script"] (sp_law K) := by
  have e := hfa.symm.trans (PySem.W.mg_of X G a31)
  cases e
  have F0 := fun_mk (st := s_is_whole) l0 c0 k0
  have F1 := fun_mk (st := s_is_among) l1 c1 k1
  have F2 := fun_mk (st := s_are_members) l2 c2 k2
  have F3 := fun_mk (st := s_need_members) l3 c3 k3
  have F4 := fun_mk (st := s_is_told) l4 c4 k4
  have F5 := fun_mk (st := s_is_fold) l5 c5 k5
  have F6 := fun_mk (st := s_need_fold) l6 c6 k6
  have F7 := fun_mk (st := s_first_fold) l7 c7 k7
  have F8 := fun_mk (st := s_last) l8 c8 k8
  have F9 := fun_mk (st := s_has_row) l9 c9 k9
  have F10 := fun_mk (st := s_reign_at) l10 c10 k10
  have F11 := fun_mk (st := s_row_at) l11 c11 k11
  have F12 := fun_mk (st := s_with_row) l12 c12 k12
  have F13 := fun_mk (st := s_put_rows) l13 c13 k13
  have F14 := fun_mk (st := s_members_at) l14 c14 k14
  have F15 := fun_mk (st := s_folded) l15 c15 k15
  have F16 := fun_mk (st := s_fold_taken) l16 c16 k16
  have F17 := fun_mk (st := s_l_mixed) l17 c17 k17
  have F18 := fun_mk (st := s_l_stream) l18 c18 k18
  have F19 := fun_mk (st := s_l_take) l19 c19 k19
  have F20 := fun_mk (st := s_l_members_by) l20 c20 k20
  have F21 := fun_mk (st := s_l_value_by) l21 c21 k21
  have F22 := fun_mk (st := s_l_key_by) l22 c22 k22
  have F23 := fun_mk (st := s_l_ask_by) l23 c23 k23
  have F24 := fun_mk (st := s_l_deed_by) l24 c24 k24
  have F25 := fun_mk (st := s_l_match) l25 c25 k25
  have F26 := fun_mk (st := s_l_common) l26 c26 k26
  have F27 := fun_mk (st := s_l_head_deed) l27 c27 k27
  have F28 := fun_mk (st := s_l_all_rows) l28 c28 k28
  have F29 := fun_mk (st := s_l_sent) l29 c29 k29
  have F30 := fun_mk (st := s_l_fold_deed) l30 c30 k30
  have F31 := fun_mk (st := s_law) l31 c31 k31
  have b0 := F0.binds (ps := ["thing"]) fun _ _ _ _ _ _ us hl => match us, hl with | [_], _ => rfl
  have b1 := F1.binds (ps := ["thing", "least", "most"]) fun _ _ _ _ _ _ us hl => match us, hl with | [_, _, _], _ => rfl
  have b2 := F2.binds (ps := ["thing"]) fun _ _ _ _ _ _ us hl => match us, hl with | [_], _ => rfl
  have b3 := F3.binds (ps := ["thing"]) fun _ _ _ _ _ _ us hl => match us, hl with | [_], _ => rfl
  have b4 := F4.binds (ps := ["thing"]) fun _ _ _ _ _ _ us hl => match us, hl with | [_], _ => rfl
  have b5 := F5.binds (ps := ["thing"]) fun _ _ _ _ _ _ us hl => match us, hl with | [_], _ => rfl
  have b6 := F6.binds (ps := ["thing"]) fun _ _ _ _ _ _ us hl => match us, hl with | [_], _ => rfl
  have b7 := F7.binds (ps := ["members", "told"]) fun _ _ _ _ _ _ us hl => match us, hl with | [_, _], _ => rfl
  have b8 := F8.binds (ps := ["log"]) fun _ _ _ _ _ _ us hl => match us, hl with | [_], _ => rfl
  have b9 := F9.binds (ps := ["log", "place"]) fun _ _ _ _ _ _ us hl => match us, hl with | [_, _], _ => rfl
  have b10 := F10.binds (ps := ["log", "place"]) fun _ _ _ _ _ _ us hl => match us, hl with | [_, _], _ => rfl
  have b11 := F11.binds (ps := ["log", "place"]) fun _ _ _ _ _ _ us hl => match us, hl with | [_, _], _ => rfl
  have b12 := F12.binds (ps := ["log", "row"]) fun _ _ _ _ _ _ us hl => match us, hl with | [_, _], _ => rfl
  have b13 := F13.binds (ps := ["log", "before", "rows"]) fun _ _ _ _ _ _ us hl => match us, hl with | [_, _, _], _ => rfl
  have b14 := F14.binds (ps := ["log", "place"]) fun _ _ _ _ _ _ us hl => match us, hl with | [_, _], _ => rfl
  have b15 := F15.binds (ps := ["log", "place", "told"]) fun _ _ _ _ _ _ us hl => match us, hl with | [_, _, _], _ => rfl
  have b16 := F16.binds (ps := ["log", "fold"]) fun _ _ _ _ _ _ us hl => match us, hl with | [_, _], _ => rfl
  have b17 := F17.binds (ps := ["_law_number", "_law_k"]) fun _ _ _ _ _ _ us hl => match us, hl with | [_, _], _ => rfl
  have b18 := F18.binds (ps := ["_law_script", "_law_cell", "_law_k"]) fun _ _ _ _ _ _ us hl => match us, hl with | [_, _, _], _ => rfl
  have b19 := F19.binds (ps := ["_law_stream_here", "_law_many"]) fun _ _ _ _ _ _ us hl => match us, hl with | [_, _], _ => rfl
  have b20 := F20.binds (ps := ["_law_stream_here"]) fun _ _ _ _ _ _ us hl => match us, hl with | [_], _ => rfl
  have b21 := F21.binds (ps := ["_law_stream_here"]) fun _ _ _ _ _ _ us hl => match us, hl with | [_], _ => rfl
  have b22 := F22.binds (ps := ["_law_stream_here"]) fun _ _ _ _ _ _ us hl => match us, hl with | [_], _ => rfl
  have b23 := F23.binds (ps := ["_law_stream_here"]) fun _ _ _ _ _ _ us hl => match us, hl with | [_], _ => rfl
  have b24 := F24.binds (ps := ["_law_stream_here"]) fun _ _ _ _ _ _ us hl => match us, hl with | [_], _ => rfl
  have b25 := F25.binds (ps := ["_law_one", "_law_other"]) fun _ _ _ _ _ _ us hl => match us, hl with | [_, _], _ => rfl
  have b26 := F26.binds (ps := ["_law_heads", "_law_least"]) fun _ _ _ _ _ _ us hl => match us, hl with | [_, _], _ => rfl
  have b27 := F27.binds (ps := ["_law_stream_here", "_law_logs", "_law_heads", "_law_deepest"]) fun _ _ _ _ _ _ us hl => match us, hl with | [_, _, _, _], _ => rfl
  have b28 := F28.binds (ps := ["_law_log", "_law_heads"]) fun _ _ _ _ _ _ us hl => match us, hl with | [_, _], _ => rfl
  have b29 := F29.binds (ps := ["_law_stream_here", "_law_logs", "_law_heads"]) fun _ _ _ _ _ _ us hl => match us, hl with | [_, _, _], _ => rfl
  have b30 := F30.binds (ps := ["_law_stream_here", "_law_logs", "_law_heads", "_law_deepest"]) fun _ _ _ _ _ _ us hl => match us, hl with | [_, _, _, _], _ => rfl
  have T : Txt K mg := ⟨⟨_, _, F0, b0, PySem.W.mg_of X G a0⟩, ⟨_, _, F1, b1, PySem.W.mg_of X G a1⟩, ⟨_, _, F2, b2, PySem.W.mg_of X G a2⟩, ⟨_, _, F3, b3, PySem.W.mg_of X G a3⟩, ⟨_, _, F4, b4, PySem.W.mg_of X G a4⟩, ⟨_, _, F5, b5, PySem.W.mg_of X G a5⟩, ⟨_, _, F6, b6, PySem.W.mg_of X G a6⟩, ⟨_, _, F7, b7, PySem.W.mg_of X G a7⟩, ⟨_, _, F8, b8, PySem.W.mg_of X G a8⟩, ⟨_, _, F9, b9, PySem.W.mg_of X G a9⟩, ⟨_, _, F10, b10, PySem.W.mg_of X G a10⟩, ⟨_, _, F11, b11, PySem.W.mg_of X G a11⟩, ⟨_, _, F12, b12, PySem.W.mg_of X G a12⟩, ⟨_, _, F13, b13, PySem.W.mg_of X G a13⟩, ⟨_, _, F14, b14, PySem.W.mg_of X G a14⟩, ⟨_, _, F15, b15, PySem.W.mg_of X G a15⟩, ⟨_, _, F16, b16, PySem.W.mg_of X G a16⟩, ⟨_, _, F17, b17, PySem.W.mg_of X G a17⟩, ⟨_, _, F18, b18, PySem.W.mg_of X G a18⟩, ⟨_, _, F19, b19, PySem.W.mg_of X G a19⟩, ⟨_, _, F20, b20, PySem.W.mg_of X G a20⟩, ⟨_, _, F21, b21, PySem.W.mg_of X G a21⟩, ⟨_, _, F22, b22, PySem.W.mg_of X G a22⟩, ⟨_, _, F23, b23, PySem.W.mg_of X G a23⟩, ⟨_, _, F24, b24, PySem.W.mg_of X G a24⟩, ⟨_, _, F25, b25, PySem.W.mg_of X G a25⟩, ⟨_, _, F26, b26, PySem.W.mg_of X G a26⟩, ⟨_, _, F27, b27, PySem.W.mg_of X G a27⟩, ⟨_, _, F28, b28, PySem.W.mg_of X G a28⟩, ⟨_, _, F29, b29, PySem.W.mg_of X G a29⟩, ⟨_, _, F30, b30, PySem.W.mg_of X G a30⟩,
    PySem.W.mg_none_of X G z_isinstance, PySem.W.mg_none_of X G z_int, PySem.W.mg_none_of X G z_bool, PySem.W.mg_none_of X G z_tuple, PySem.W.mg_none_of X G z_str, PySem.W.mg_none_of X G z_len, PySem.W.mg_none_of X G z_all, PySem.W.mg_none_of X G z_zip, PySem.W.mg_none_of X G z_any, PySem.W.mg_none_of X G z_enumerate, PySem.W.mg_none_of X G z_range, PySem.W.mg_none_of X G z_list, PySem.W.mg_none_of X G z_sorted, PySem.W.mg_none_of X G z_max, PySem.W.mg_none_of X G z_min,
    ⟨_, PySem.W.mg_of X G y_MOST⟩, ⟨_, PySem.W.mg_of X G y_LAST_SCRIBE⟩, ⟨_, PySem.W.mg_of X G y_MOST_MEMBERS⟩⟩
  exact ⟨_, fun s v => .of_eq rfl, fun base _ _ => ok_law T F31⟩
end K7
open PySem PySem.W PyProof.Rows
set_option maxHeartbeats 0 in
theorem PySem.Challenge.cw_scribehall_k07_whole_logs_that_match_holds : PySem.Challenge.rw_scribehall_k07_whole_logs_that_match.Holds := by
  w_on; o_law; k_head; (case hw => w_witness2)
  k_fill
  refine L2.walk_of (l := PySem.Challenge.rw_scribehall_k07_whole_logs_that_match) (n := 63) (k := 9) (x := "_law_script") (CX := fun _ => L2.CX0) (sp := fun w => K7.sp_law _) rfl (by decide) rfl ⟨rfl, by decide, by decide⟩ (fun w h Y => PySem.W.kIn_of Y) ?F (fun _ _ a ns hl _ hS => ⟨a, ns, rfl, hS, hl, fun _ => rfl⟩) (fun _ _ _ _ _ h => h)
  case F =>
    intro w mg fa h KX G hmg
    refine' K7.all_mk KX G hmg ?a0 ?l0 ?c0 ?k0 ?a1 ?l1 ?c1 ?k1 ?a2 ?l2 ?c2 ?k2 ?a3 ?l3 ?c3 ?k3 ?a4 ?l4 ?c4 ?k4 ?a5 ?l5 ?c5 ?k5 ?a6 ?l6 ?c6 ?k6 ?a7 ?l7 ?c7 ?k7 ?a8 ?l8 ?c8 ?k8 ?a9 ?l9 ?c9 ?k9 ?a10 ?l10 ?c10 ?k10 ?a11 ?l11 ?c11 ?k11 ?a12 ?l12 ?c12 ?k12 ?a13 ?l13 ?c13 ?k13 ?a14 ?l14 ?c14 ?k14 ?a15 ?l15 ?c15 ?k15 ?a16 ?l16 ?c16 ?k16 ?a17 ?l17 ?c17 ?k17 ?a18 ?l18 ?c18 ?k18 ?a19 ?l19 ?c19 ?k19 ?a20 ?l20 ?c20 ?k20 ?a21 ?l21 ?c21 ?k21 ?a22 ?l22 ?c22 ?k22 ?a23 ?l23 ?c23 ?k23 ?a24 ?l24 ?c24 ?k24 ?a25 ?l25 ?c25 ?k25 ?a26 ?l26 ?c26 ?k26 ?a27 ?l27 ?c27 ?k27 ?a28 ?l28 ?c28 ?k28 ?a29 ?l29 ?c29 ?k29 ?a30 ?l30 ?c30 ?k30 ?a31 ?l31 ?c31 ?k31 ?z_isinstance ?z_int ?z_bool ?z_tuple ?z_str ?z_len ?z_all ?z_zip ?z_any ?z_enumerate ?z_range ?z_list ?z_sorted ?z_max ?z_min ?y_MOST ?y_LAST_SCRIBE ?y_MOST_MEMBERS
    (case a0 => k_is); (case l0 => k_is); (case c0 => k_is); (case k0 => k_is); (case a1 => k_is); (case l1 => k_is); (case c1 => k_is); (case k1 => k_is); (case a2 => k_is); (case l2 => k_is); (case c2 => k_is); (case k2 => k_is); (case a3 => k_is); (case l3 => k_is); (case c3 => k_is); (case k3 => k_is); (case a4 => k_is); (case l4 => k_is); (case c4 => k_is); (case k4 => k_is); (case a5 => k_is); (case l5 => k_is); (case c5 => k_is); (case k5 => k_is); (case a6 => k_is); (case l6 => k_is); (case c6 => k_is); (case k6 => k_is); (case a7 => k_is); (case l7 => k_is); (case c7 => k_is); (case k7 => k_is); (case a8 => k_is); (case l8 => k_is); (case c8 => k_is); (case k8 => k_is); (case a9 => k_is); (case l9 => k_is); (case c9 => k_is); (case k9 => k_is); (case a10 => k_is); (case l10 => k_is); (case c10 => k_is); (case k10 => k_is); (case a11 => k_is); (case l11 => k_is); (case c11 => k_is); (case k11 => k_is); (case a12 => k_is); (case l12 => k_is); (case c12 => k_is); (case k12 => k_is); (case a13 => k_is); (case l13 => k_is); (case c13 => k_is); (case k13 => k_is); (case a14 => k_is); (case l14 => k_is); (case c14 => k_is); (case k14 => k_is); (case a15 => k_is); (case l15 => k_is); (case c15 => k_is); (case k15 => k_is); (case a16 => k_is); (case l16 => k_is); (case c16 => k_is); (case k16 => k_is); (case a17 => k_is); (case l17 => k_is); (case c17 => k_is); (case k17 => k_is); (case a18 => k_is); (case l18 => k_is); (case c18 => k_is); (case k18 => k_is); (case a19 => k_is); (case l19 => k_is); (case c19 => k_is); (case k19 => k_is); (case a20 => k_is); (case l20 => k_is); (case c20 => k_is); (case k20 => k_is); (case a21 => k_is); (case l21 => k_is); (case c21 => k_is); (case k21 => k_is); (case a22 => k_is); (case l22 => k_is); (case c22 => k_is); (case k22 => k_is); (case a23 => k_is); (case l23 => k_is); (case c23 => k_is); (case k23 => k_is); (case a24 => k_is); (case l24 => k_is); (case c24 => k_is); (case k24 => k_is); (case a25 => k_is); (case l25 => k_is); (case c25 => k_is); (case k25 => k_is); (case a26 => k_is); (case l26 => k_is); (case c26 => k_is); (case k26 => k_is); (case a27 => k_is); (case l27 => k_is); (case c27 => k_is); (case k27 => k_is); (case a28 => k_is); (case l28 => k_is); (case c28 => k_is); (case k28 => k_is); (case a29 => k_is); (case l29 => k_is); (case c29 => k_is); (case k29 => k_is); (case a30 => k_is); (case l30 => k_is); (case c30 => k_is); (case k30 => k_is); (case a31 => k_is); (case l31 => k_is); (case c31 => k_is); (case k31 => k_is); (case z_isinstance => k_is); (case z_int => k_is); (case z_bool => k_is); (case z_tuple => k_is); (case z_str => k_is); (case z_len => k_is); (case z_all => k_is); (case z_zip => k_is); (case z_any => k_is); (case z_enumerate => k_is); (case z_range => k_is); (case z_list => k_is); (case z_sorted => k_is); (case z_max => k_is); (case z_min => k_is); (case y_MOST => k_is); (case y_LAST_SCRIBE => k_is); (case y_MOST_MEMBERS => k_is)
